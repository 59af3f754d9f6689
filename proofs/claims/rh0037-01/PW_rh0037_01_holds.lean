import PyProof.Rows.All
import Wide.All
import OpenK.AllK
import Wide.FinOn
import PySem.Challenge.RW_rh0037_01
open PySem PySem.W PySem.Spec PySem.Calls PyProof.Rows
set_option Elab.async false
set_option maxRecDepth 100000
namespace Mine

/-- what the small evaluator gives: a datum and the number of draws so far; an exception of a kind; nothing -/
inductive Rz (α : Type) where
  | ok (a : α) (k : Nat)
  | exc (kd : Str) (k : Nat)
  | stuck

noncomputable def Rz.bind {α β : Type} (r : Rz α) (f : α → Nat → Rz β) : Rz β :=
  match r with
  | .ok a k => f a k
  | .exc kd k => .exc kd k
  | .stuck => .stuck

/-- it gives something; an exception only where those are asked about -/
noncomputable def Rz.good {α : Type} (xc : Prop) : Rz α → Prop
  | .ok _ _ => True
  | .exc _ _ => xc
  | .stuck => False

noncomputable abbrev D := PyData

inductive Bi where
  | abs | len | min | max | list | str
  deriving DecidableEq

/-- expressions without positions; names resolved -/
inductive X where
  | int (i : Int) | str (x : Str) | none | bool (b : Bool)
  | var (x : Nat) | glob (x : Nat)
  | bin (o : Operator) (a b : X) | neg (a : X)
  | cmp (c : CmpOp) (a b : X)
  | band (l : List X) | bor (l : List X) | not (a : X)
  | ite (c a b : X)
  | idx (a i : X) | upto (a i : X) | from_ (a i : X)
  | bi (b : Bi) (l : List X) | rng (l : List X) | call (f : Nat) (l : List X)
  | tup (l : List X) | lst (l : List X)
  | comp (e : X) (x : Nat) (it : X)
  | other

/-- a name's number -/
noncomputable def enc1 : List Nat → Nat
  | [] => 1
  | c :: r => enc1 r * 128 + c
noncomputable def enc2 : List Nat → Nat
  | [] => 0
  | c :: r => 2 ^ c * (2 * enc2 r + 1)
noncomputable def tok (x : Str) : Nat := if x.cps.toList.all (fun c => decide (c < 128)) then 2 * enc1 x.cps.toList else 2 * enc2 x.cps.toList + 1

theorem enc1_pos : ∀ l, 1 ≤ enc1 l
  | [] => Nat.le_refl _
  | c :: r => by have := enc1_pos r; unfold enc1; omega
theorem enc1_inj : ∀ {l l' : List Nat}, (∀ c ∈ l, c < 128) → (∀ c ∈ l', c < 128) → enc1 l = enc1 l' → l = l'
  | [], [], _, _, _ => rfl
  | [], c :: r, _, _, e => by have := enc1_pos r; unfold enc1 at e; omega
  | c :: r, [], _, _, e => by have := enc1_pos r; unfold enc1 at e; omega
  | c :: r, c' :: r', h, h', e => by
    have h1 := h c (.head _)
    have h2 := h' c' (.head _)
    unfold enc1 at e
    have e1 : c = c' := by omega
    have e2 : enc1 r = enc1 r' := by omega
    rw [e1, enc1_inj (fun c m => h c (.tail _ m)) (fun c m => h' c (.tail _ m)) e2]
theorem pow_odd : ∀ {c c' n n' : Nat}, 2 ^ c * (2 * n + 1) = 2 ^ c' * (2 * n' + 1) → c = c' ∧ n = n'
  | 0, 0, n, n', e => ⟨rfl, by omega⟩
  | 0, c' + 1, n, n', e => by
    exfalso
    rw [Nat.pow_succ, Nat.mul_comm (2 ^ c') 2, Nat.mul_assoc] at e
    omega
  | c + 1, 0, n, n', e => by
    exfalso
    rw [Nat.pow_succ, Nat.mul_comm (2 ^ c) 2, Nat.mul_assoc] at e
    omega
  | c + 1, c' + 1, n, n', e => by
    rw [Nat.pow_succ, Nat.pow_succ, Nat.mul_comm (2 ^ c) 2, Nat.mul_comm (2 ^ c') 2, Nat.mul_assoc, Nat.mul_assoc] at e
    obtain ⟨h1, h2⟩ := pow_odd (c := c) (c' := c') (n := n) (n' := n') (by omega)
    exact ⟨by rw [h1], h2⟩
theorem enc2_inj : ∀ {l l' : List Nat}, enc2 l = enc2 l' → l = l'
  | [], [], _ => rfl
  | [], c :: r, e => by
    exfalso
    have h1 : 0 < 2 ^ c * (2 * enc2 r + 1) := Nat.mul_pos (Nat.pow_pos (by decide)) (by omega)
    unfold enc2 at e
    omega
  | c :: r, [], e => by
    exfalso
    have h1 : 0 < 2 ^ c * (2 * enc2 r + 1) := Nat.mul_pos (Nat.pow_pos (by decide)) (by omega)
    unfold enc2 at e
    omega
  | c :: r, c' :: r', e => by
    obtain ⟨h1, h2⟩ := pow_odd e
    rw [h1, enc2_inj h2]
theorem tok_inj {x y : Str} (h : tok x = tok y) : x = y := by
  have fin : x.cps.toList = y.cps.toList → x = y := fun e => by
    obtain ⟨a⟩ := x
    obtain ⟨b⟩ := y
    have : a = b := Array.ext' e
    rw [this]
  unfold tok at h
  split at h
  · rename_i h1
    split at h
    · rename_i h2
      rw [List.all_eq_true] at h1 h2
      exact fin (enc1_inj (fun c m => of_decide_eq_true (h1 c m)) (fun c m => of_decide_eq_true (h2 c m)) (by omega))
    · omega
  · split at h
    · omega
    · exact fin (enc2_inj (by omega))
theorem tok_beq {x y : Str} : (tok x == tok y) = (x == y) := by
  by_cases h : x = y
  · subst h; simp
  · have h' : tok x ≠ tok y := fun e => h (tok_inj e)
    rw [beq_eq_false_iff_ne.mpr h, beq_eq_false_iff_ne.mpr h']

noncomputable abbrev Sc := List (Str × NameKind)

noncomputable def visK : Option NameKind → Bool
  | some .local => true
  | some .cell => true
  | some .free => true
  | _ => false

noncomputable def vis (sc : Sc) (x : Str) : Bool := x != (".0" : Str) && x != ("__debug__" : Str) && visK (sc.lookup x)

noncomputable def isGlob (sc : Sc) (x : Str) : Bool := x != ("__debug__" : Str) && x != ("__name__" : Str) && sc.lookup x == some .globalImplicit

noncomputable def nameX (sc : Sc) (x : Str) : X := if vis sc x then .var (tok x) else if isGlob sc x then .glob (tok x) else .other

noncomputable def biOf (f : Str) : Option Bi :=
  if f == ("abs" : Str) then some .abs else if f == ("len" : Str) then some .len else if f == ("min" : Str) then some .min
  else if f == ("max" : Str) then some .max else if f == ("list" : Str) then some .list else if f == ("str" : Str) then some .str else Option.none

noncomputable def callX (sc : Sc) (f : Str) (l : List X) : X :=
  if isGlob sc f then
    match biOf f with
    | some b => .bi b l
    | Option.none => if f == ("range" : Str) then .rng l else .call (tok f) l
  else .other

/-- may this comprehension be run: its own name alone is local, the rest it takes from cells -/
noncomputable def compOk (sc : Sc) (scope : Scope) (x : Str) : Bool :=
  scope.kind == .function && x != (".0" : Str) && x != ("__debug__" : Str) && scope.names.lookup x == some .local &&
  scope.names.all fun p => match p.2 with
    | .local => scope.names.lookup p.1 == some .local && (p.1 == x || p.1 == (".0" : Str))
    | .free => sc.lookup p.1 == some .cell && scope.names.lookup p.1 == some .free
    | .globalImplicit => true
    | _ => false

noncomputable def isStar : PySem.Expr → Bool
  | .Starred _ _ => true
  | _ => false

noncomputable def erC : PySem.Const → X
  | .int i => .int i
  | .str x => .str x
  | .none => .none
  | .bool b => .bool b
  | _ => .other
noncomputable def isSetE : PySem.Expr → Bool
  | .Set _ _ _ => true
  | _ => false
noncomputable def isNameE : PySem.Expr → Bool
  | .Name _ _ => true
  | _ => false
noncomputable def isBinE : PySem.Expr → Bool
  | .BinOp _ _ _ _ => true
  | _ => false
noncomputable def hd1 {α : Type} : List α → Option α
  | [a] => some a
  | _ => none
noncomputable def erU (o : UnaryOp) (a : X) : X := match o with
  | .USub => .neg a
  | .Not => .not a
  | _ => .other
noncomputable def erCmp (f : PySem.Expr → X) (l : PySem.Expr) (o : Option CmpOp) (r : Option PySem.Expr) : X := match o with
  | some o => (match r with
    | some r => if isSetE r then .other else .cmp o (f l) (f r)
    | none => .other)
  | none => .other
noncomputable def erSl (f : PySem.Expr → X) (v : PySem.Expr) (a b c : Option PySem.Expr) : X := match c with
  | none => (match a with
    | none => (match b with
      | some u => if isNameE v || isBinE v then .upto (f v) (f u) else .other
      | none => .other)
    | some l => (match b with
      | none => if isNameE v then .from_ (f v) (f l) else .other
      | some _ => .other))
  | some _ => .other
noncomputable def erSub (f : PySem.Expr → X) (v i : PySem.Expr) : X := match i with
  | .Slice a b c _ => erSl f v a b c
  | i => .idx (f v) (f i)
noncomputable def erCall (sc : Sc) (f : PySem.Expr → X) (g : PySem.Expr) (args : List PySem.Expr) (kw : List Keyword) : X := match g with
  | .Name x _ => if kw.isEmpty then (if args.isEmpty || args.any isStar then .other else callX sc x (args.map f)) else .other
  | _ => .other
noncomputable def erComp (sc : Sc) (f : Sc → PySem.Expr → X) (scope : Scope) (a : PySem.Expr) (g : Option Comprehension) : X := match g with
  | some c => (match c.target with
    | .Name x _ => if c.ifs.isEmpty && c.is_async == 0 && compOk sc scope x then .comp (f scope.names a) (tok x) (f sc c.iter) else .other
    | _ => .other)
  | none => .other

noncomputable def er : Nat → Sc → PySem.Expr → X
  | 0, _, _ => .other
  | n + 1, sc, e => match e with
    | .Constant c _ _ => erC c
    | .Name x _ => nameX sc x
    | .BinOp l o r _ => .bin o (er n sc l) (er n sc r)
    | .UnaryOp o a _ => erU o (er n sc a)
    | .Compare l os rs _ => erCmp (er n sc) l (hd1 os) (hd1 rs)
    | .BoolOp o l _ => (match o with
      | .And => .band (l.map (er n sc))
      | .Or => .bor (l.map (er n sc)))
    | .IfExp c a b _ => .ite (er n sc c) (er n sc a) (er n sc b)
    | .Subscript v i _ => erSub (er n sc) v i
    | .Call g args kw _ => erCall sc (er n sc) g args kw
    | .Tuple es _ _ => .tup (es.map (er n sc))
    | .List es _ => .lst (es.map (er n sc))
    | .ListComp a gs scope _ => erComp sc (fun sc e => er n sc e) scope a (hd1 gs)
    | _ => .other

/-- which text gives which small expression -/
inductive ErI (n : Nat) (sc : Sc) : PySem.Expr → X → Prop
  | int (i : Int) (a : Nat) (p : Pos) : ErI n sc (.Constant (.int i) a p) (.int i)
  | str (x : Str) (a : Nat) (p : Pos) : ErI n sc (.Constant (.str x) a p) (.str x)
  | none (a : Nat) (p : Pos) : ErI n sc (.Constant .none a p) .none
  | bool (b : Bool) (a : Nat) (p : Pos) : ErI n sc (.Constant (.bool b) a p) (.bool b)
  | name (x : Str) (p : Pos) : ErI n sc (.Name x p) (nameX sc x)
  | bin (l : PySem.Expr) (o : Operator) (r : PySem.Expr) (p : Pos) : ErI n sc (.BinOp l o r p) (.bin o (er n sc l) (er n sc r))
  | neg (a : PySem.Expr) (p : Pos) : ErI n sc (.UnaryOp .USub a p) (.neg (er n sc a))
  | not (a : PySem.Expr) (p : Pos) : ErI n sc (.UnaryOp .Not a p) (.not (er n sc a))
  | cmp (l : PySem.Expr) (o : CmpOp) (r : PySem.Expr) (p : Pos) (h : isSetE r = false) : ErI n sc (.Compare l [o] [r] p) (.cmp o (er n sc l) (er n sc r))
  | band (l : List PySem.Expr) (p : Pos) : ErI n sc (.BoolOp .And l p) (.band (l.map (er n sc)))
  | bor (l : List PySem.Expr) (p : Pos) : ErI n sc (.BoolOp .Or l p) (.bor (l.map (er n sc)))
  | ite (c a b : PySem.Expr) (p : Pos) : ErI n sc (.IfExp c a b p) (.ite (er n sc c) (er n sc a) (er n sc b))
  | upto (v u : PySem.Expr) (p q : Pos) : ErI n sc (.Subscript v (.Slice Option.none (some u) Option.none p) q) (.upto (er n sc v) (er n sc u))
  | from_ (v u : PySem.Expr) (p q : Pos) : ErI n sc (.Subscript v (.Slice (some u) Option.none Option.none p) q) (.from_ (er n sc v) (er n sc u))
  | idx (v i : PySem.Expr) (p : Pos) (h : ∀ a b c q, i ≠ .Slice a b c q) : ErI n sc (.Subscript v i p) (.idx (er n sc v) (er n sc i))
  | call (x : Str) (p : Pos) (args : List PySem.Expr) (q : Pos) (h : (args.isEmpty || args.any isStar) = false) : ErI n sc (.Call (.Name x p) args [] q) (callX sc x (args.map (er n sc)))
  | tup (es : List PySem.Expr) (k : Nat) (p : Pos) : ErI n sc (.Tuple es k p) (.tup (es.map (er n sc)))
  | lst (es : List PySem.Expr) (p : Pos) : ErI n sc (.List es p) (.lst (es.map (er n sc)))
  | comp (a : PySem.Expr) (x : Str) (p : Pos) (it : PySem.Expr) (scope : Scope) (q : Pos) (h : compOk sc scope x = true) : ErI n sc (.ListComp a [⟨.Name x p, it, [], 0⟩] scope q) (.comp (er n scope.names a) (tok x) (er n sc it))
  | other (e : PySem.Expr) : ErI n sc e .other

theorem hd1_of {α : Type} {l : List α} {a : α} (h : hd1 l = some a) : l = [a] := by
  match l, h with
  | [b], h => cases h; rfl
theorem er_inv (n : Nat) (sc : Sc) (e : PySem.Expr) : ErI n sc e (er (n + 1) sc e) := by
  cases e with
  | Constant c a p => cases c with
    | int i => exact .int i a p
    | str i => exact .str i a p
    | none => exact .none a p
    | bool i => exact .bool i a p
    | _ => exact .other _
  | Name x p => exact .name x p
  | BinOp l o r p => exact .bin l o r p
  | UnaryOp o a p => cases o with
    | USub => exact .neg a p
    | Not => exact .not a p
    | _ => exact .other _
  | Compare l os rs p =>
    show ErI n sc _ (erCmp (er n sc) l (hd1 os) (hd1 rs))
    cases ho : hd1 os with
    | none => exact .other _
    | some o =>
      cases hr : hd1 rs with
      | none => exact .other _
      | some r =>
        obtain rfl := hd1_of ho
        obtain rfl := hd1_of hr
        show ErI n sc _ (if isSetE r then X.other else .cmp o (er n sc l) (er n sc r))
        cases hs : isSetE r with
        | true => exact .other _
        | false => exact .cmp l o r p hs
  | BoolOp o l p => cases o with
    | And => exact .band l p
    | Or => exact .bor l p
  | IfExp c a b p => exact .ite c a b p
  | Subscript v i p =>
    cases i with
    | Slice a b c q =>
      show ErI n sc _ (erSl (er n sc) v a b c)
      cases c with
      | some _ => exact .other _
      | none =>
        cases a with
        | none => cases b with
          | none => exact .other _
          | some u =>
            show ErI n sc _ (if isNameE v || isBinE v then X.upto (er n sc v) (er n sc u) else .other)
            split
            · exact .upto v u q p
            · exact .other _
        | some l => cases b with
          | none =>
            show ErI n sc _ (if isNameE v then X.from_ (er n sc v) (er n sc l) else .other)
            split
            · exact .from_ v l q p
            · exact .other _
          | some _ => exact .other _
    | _ => exact .idx v _ p nofun
  | Call g args kw p => cases g with
    | Name x q =>
      show ErI n sc _ (if kw.isEmpty then (if args.isEmpty || args.any isStar then X.other else callX sc x (args.map (er n sc))) else .other)
      split
      · rename_i hk
        obtain rfl := List.isEmpty_iff.mp hk
        split
        · exact .other _
        · rename_i h
          exact .call x q args p (by simpa using h)
      · exact .other _
    | _ => exact .other _
  | Tuple es k p => exact .tup es k p
  | List es p => exact .lst es p
  | ListComp a gs scope p =>
    show ErI n sc _ (erComp sc (fun sc e => er n sc e) scope a (hd1 gs))
    cases hg : hd1 gs with
    | none => exact .other _
    | some c =>
      obtain rfl := hd1_of hg
      obtain ⟨t, it, ifs, as⟩ := c
      cases t with
      | Name x q =>
        show ErI n sc _ (if ifs.isEmpty && as == 0 && compOk sc scope x then X.comp (er n scope.names a) (tok x) (er n sc it) else .other)
        split
        · rename_i h
          simp only [Bool.and_eq_true, List.isEmpty_iff, beq_iff_eq] at h
          obtain ⟨⟨rfl, rfl⟩, h⟩ := h
          exact .comp a x q it scope p h
        · exact .other _
      | _ => exact .other _
  | _ => exact .other _

inductive Var where
  | val (d : D)
  | own (l : List D)

noncomputable abbrev Rho := List (Nat × Var)

noncomputable def Rho.put (x : Nat) (v : Var) : Rho → Rho
  | [] => [(x, v)]
  | p :: r => if x == p.1 then (x, v) :: r else p :: Rho.put x v r

noncomputable def mulOk (a b : Int) : Bool := decide (Builtin.Int.intBits a + Builtin.Int.intBits b ≤ 134217728)

noncomputable def i2 (a b : D) (f : Int → Int → Rz D) : Rz D := match a with
  | .int x => (match b with
    | .int y => f x y
    | _ => .stuck)
  | _ => .stuck
noncomputable def addD (a b : D) (k : Nat) : Rz D := match a with
  | .int x => (match b with
    | .int y => .ok (.int (x + y)) k
    | _ => .stuck)
  | .str x => (match b with
    | .str y => if x.length + y.length ≤ sizeLine then .ok (.str (x ++ y)) k else .stuck
    | _ => .stuck)
  | .list x => (match b with
    | .list y => if x.length + y.length ≤ sizeLine then .ok (.list (x ++ y)) k else .stuck
    | _ => .stuck)
  | _ => .stuck
noncomputable def subD (a b : D) (k : Nat) : Rz D := match a with
  | .int x => (match b with
    | .int y => .ok (.int (x - y)) k
    | _ => .stuck)
  | .bool x => (match b with
    | .bool y => .ok (.int (b2i x - b2i y)) k
    | _ => .stuck)
  | _ => .stuck
noncomputable def mulD (a b : D) (k : Nat) : Rz D := match b with
  | .int y => (match a with
    | .int x => if mulOk x y then .ok (.int (x * y)) k else .stuck
    | .list x => if y < 1048576 ∧ -1048576 < y ∧ x.length * y.toNat ≤ sizeLine then .ok (.list (List.replicate y.toNat x).flatten) k else .stuck
    | _ => .stuck)
  | _ => .stuck
noncomputable def binD (o : Operator) (a b : D) (k : Nat) : Rz D :=
  match o with
  | .Add => addD a b k
  | .Sub => subD a b k
  | .Mult => mulD a b k
  | .FloorDiv => i2 a b fun x y => if y ≠ 0 ∧ Builtin.divisionGoesByPylong x y = false then .ok (.int (x.fdiv y)) k else .stuck
  | .Mod => i2 a b fun x y => if y ≠ 0 then .ok (.int (x.fmod y)) k else .stuck
  | .Pow => i2 a b fun x y => if 0 ≤ y ∧ (Builtin.Int.intBits x : Int) * y ≤ 134217728 then .ok (.int (x ^ y.toNat)) k else .stuck
  | _ => .stuck

noncomputable def shp (d : D) : Bool := SeqAt.shaped d

noncomputable def inD (a b : D) (f : List D → Rz D) : Rz D := match b with
  | .tuple ys => if shp a && shp (.tuple ys) then f ys else .stuck
  | _ => .stuck
noncomputable def isD (a b : D) (k : Nat) : Rz D := match b with
  | .none => (match a with
    | .none => .ok (.bool true) k
    | .dict _ => .stuck
    | _ => .ok (.bool false) k)
  | _ => .stuck
noncomputable def cmpD (c : CmpOp) (a b : D) (k : Nat) : Rz D :=
  match c with
  | .Lt => i2 a b fun x y => .ok (.bool (decide (x < y))) k
  | .LtE => i2 a b fun x y => .ok (.bool (decide (x ≤ y))) k
  | .Gt => i2 a b fun x y => .ok (.bool (decide (y < x))) k
  | .GtE => i2 a b fun x y => .ok (.bool (decide (y ≤ x))) k
  | .Eq => if shp a && shp b then .ok (.bool (PyData.eqv a b)) k else .stuck
  | .NotEq => if shp a && shp b then .ok (.bool (!PyData.eqv a b)) k else .stuck
  | .In => inD a b fun ys => .ok (.bool (ys.any fun y => PyData.eqv y a)) k
  | .NotIn => inD a b fun ys => .ok (.bool (!ys.any fun y => PyData.eqv y a)) k
  | .Is => isD a b k
  | _ => .stuck

noncomputable def truD (d : D) (k : Nat) : Rz D :=
  match d with
  | .bool b => .ok (.bool b) k
  | _ => .stuck

noncomputable def idxD (a i : D) (k : Nat) : Rz D :=
  match a, i with
  | .tuple l, .int j => if 0 ≤ j ∧ j < 1048576 then (match l[j.toNat]? with | some d => .ok d k | Option.none => .stuck) else .stuck
  | .list l, .int j => if 0 ≤ j ∧ j < 1048576 then (match l[j.toNat]? with | some d => .ok d k | Option.none => .stuck) else .stuck
  | _, _ => .stuck

noncomputable def uptoD (a i : D) (k : Nat) : Rz D :=
  match a, i with
  | .list l, .int j => if 0 ≤ j ∧ l.length ≤ sizeLine then .ok (.list (l.take j.toNat)) k else .stuck
  | _, _ => .stuck
noncomputable def fromD (a i : D) (k : Nat) : Rz D :=
  match a, i with
  | .list l, .int j => if 0 ≤ j ∧ l.length ≤ sizeLine then .ok (.list (l.drop j.toNat)) k else .stuck
  | _, _ => .stuck

noncomputable def bi1 (ds : List D) (f : D → Rz D) : Rz D := match hd1 ds with
  | some d => f d
  | none => .stuck
noncomputable def hdD {α : Type} : List α → Option (α × α)
  | [a, b] => some (a, b)
  | _ => none
noncomputable def bi2 (ds : List D) (f : Int → Int → Rz D) : Rz D := match hdD ds with
  | some p => i2 p.1 p.2 f
  | none => .stuck
noncomputable def absD (k : Nat) (d : D) : Rz D := match d with
  | .int x => .ok (.int (if x < 0 then -x else x)) k
  | _ => .stuck
noncomputable def lenD (k : Nat) (d : D) : Rz D := match d with
  | .list l => if l.length ≤ sizeLine then .ok (.int l.length) k else .stuck
  | .tuple l => if l.length ≤ sizeLine then .ok (.int l.length) k else .stuck
  | _ => .stuck
noncomputable def listD (k : Nat) (d : D) : Rz D := match d with
  | .list l => if l.length ≤ sizeLine then .ok (.list l) k else .stuck
  | .tuple l => if l.length ≤ sizeLine then .ok (.list l) k else .stuck
  | _ => .stuck
noncomputable def strD (k : Nat) (d : D) : Rz D := match d with
  | .int x => if x.natAbs.log2 < 1920 then .ok (.str (Str.ofString (toString x))) k else .stuck
  | _ => .stuck
noncomputable def biD (b : Bi) (ds : List D) (k : Nat) : Rz D :=
  match b with
  | .abs => bi1 ds (absD k)
  | .len => bi1 ds (lenD k)
  | .min => bi2 ds fun x y => .ok (.int (if y < x then y else x)) k
  | .max => bi2 ds fun x y => .ok (.int (if y > x then y else x)) k
  | .list => bi1 ds (listD k)
  | .str => bi1 ds (strD k)

noncomputable def intsFrom (a : Int) (n : Nat) : List D := (List.range n).map fun (i : Nat) => PyData.int (a + (i : Int))

noncomputable def rngD (ds : List D) (k : Nat) : Rz D :=
  match ds with
  | [.int b] => if -1048576 < b ∧ b < 1048576 then .ok (.list (intsFrom 0 b.toNat)) k else .stuck
  | [.int a, .int b] => if -1048576 < a ∧ a < 1048576 ∧ -1048576 < b ∧ b < 1048576 then .ok (.list (intsFrom a (b - a).toNat)) k else .stuck
  | _ => .stuck

noncomputable def itemsD (d : D) (k : Nat) : Rz D :=
  match d with
  | .list l => if l.length ≤ sizeLine then .ok (.list l) k else .stuck
  | .tuple l => if l.length ≤ sizeLine then .ok (.list l) k else .stuck
  | _ => .stuck

noncomputable def evL (f : Nat → X → Rz D) : List X → Nat → Rz (List D)
  | [], k => .ok [] k
  | e :: r, k => (f k e).bind fun d k => (evL f r k).bind fun ds k => .ok (d :: ds) k

noncomputable def andV (f : Nat → X → Rz D) : List X → Nat → Rz D
  | [], _ => .stuck
  | [e], k => f k e
  | e :: r, k => (f k e).bind fun d k => match d with
    | .bool true => andV f r k
    | .bool false => .ok (.bool false) k
    | _ => .stuck
noncomputable def orV (f : Nat → X → Rz D) : List X → Nat → Rz D
  | [], _ => .stuck
  | [e], k => f k e
  | e :: r, k => (f k e).bind fun d k => match d with
    | .bool false => orV f r k
    | .bool true => .ok (.bool true) k
    | _ => .stuck
noncomputable def andT (f : Nat → X → Rz D) : List X → Nat → Rz D
  | [], k => .ok (.bool true) k
  | e :: r, k => (f k e).bind fun d k => match d with
    | .bool true => andT f r k
    | .bool false => .ok (.bool false) k
    | _ => .stuck
noncomputable def orT (f : Nat → X → Rz D) : List X → Nat → Rz D
  | [], k => .ok (.bool false) k
  | e :: r, k => (f k e).bind fun d k => match d with
    | .bool false => orT f r k
    | .bool true => .ok (.bool true) k
    | _ => .stuck

noncomputable def evM (f : D → Nat → Rz D) : List D → Nat → Rz (List D)
  | [], k => .ok [] k
  | d :: r, k => (f d k).bind fun y k => (evM f r k).bind fun ys k => .ok (y :: ys) k

inductive Md where
  | val | test | iter

noncomputable abbrev PhiT := Nat → Option (Nat → List D → Rz D)
noncomputable abbrev GamT := Nat → Option D

noncomputable def ev (Φ : PhiT) (Γ : GamT) : Nat → Md → Rho → Nat → X → Rz D
  | 0, _, _, _, _ => .stuck
  | n + 1, .test, ρ, k, e => match e with
    | .not a => (ev Φ Γ n .test ρ k a).bind fun d k => match d with
      | .bool b => .ok (.bool (!b)) k
      | _ => .stuck
    | .band l => andT (fun k e => ev Φ Γ n .test ρ k e) l k
    | .bor l => orT (fun k e => ev Φ Γ n .test ρ k e) l k
    | .ite c a b => (ev Φ Γ n .test ρ k c).bind fun d k => match d with
      | .bool true => ev Φ Γ n .test ρ k a
      | .bool false => ev Φ Γ n .test ρ k b
      | _ => .stuck
    | e => (ev Φ Γ n .val ρ k e).bind truD
  | n + 1, .iter, ρ, k, e => match e with
    | .rng l => (evL (fun k e => ev Φ Γ n .val ρ k e) l k).bind rngD
    | e => (ev Φ Γ n .val ρ k e).bind itemsD
  | n + 1, .val, ρ, k, e => match e with
    | .int i => .ok (.int i) k
    | .str x => .ok (.str x) k
    | .none => .ok .none k
    | .bool b => .ok (.bool b) k
    | .var x => match ρ.lookup x with
      | some (.val d) => .ok d k
      | _ => .stuck
    | .glob x => match Γ x with
      | some d => .ok d k
      | Option.none => .stuck
    | .bin o a b => (ev Φ Γ n .val ρ k a).bind fun x k => (ev Φ Γ n .val ρ k b).bind fun y k => binD o x y k
    | .neg a => (ev Φ Γ n .val ρ k a).bind fun x k => match x with
      | .int i => .ok (.int (-i)) k
      | _ => .stuck
    | .cmp c a b => (ev Φ Γ n .val ρ k a).bind fun x k => (ev Φ Γ n .val ρ k b).bind fun y k => cmpD c x y k
    | .band l => andV (fun k e => ev Φ Γ n .val ρ k e) l k
    | .bor l => orV (fun k e => ev Φ Γ n .val ρ k e) l k
    | .not _ => .stuck
    | .ite c a b => (ev Φ Γ n .test ρ k c).bind fun d k => match d with
      | .bool true => ev Φ Γ n .val ρ k a
      | .bool false => ev Φ Γ n .val ρ k b
      | _ => .stuck
    | .idx a i => (match a with
      | .var x => (match ρ.lookup x with
        | some (.own l) => (ev Φ Γ n .val ρ k i).bind fun j k => idxD (.list l) j k
        | _ => (ev Φ Γ n .val ρ k a).bind fun x k => (ev Φ Γ n .val ρ k i).bind fun j k => idxD x j k)
      | a => (ev Φ Γ n .val ρ k a).bind fun x k => (ev Φ Γ n .val ρ k i).bind fun j k => idxD x j k)
    | .upto a i => (ev Φ Γ n .val ρ k a).bind fun x k => (ev Φ Γ n .val ρ k i).bind fun j k => uptoD x j k
    | .from_ a i => (ev Φ Γ n .val ρ k a).bind fun x k => (ev Φ Γ n .val ρ k i).bind fun j k => fromD x j k
    | .bi b l => (evL (fun k e => ev Φ Γ n .val ρ k e) l k).bind fun ds k => biD b ds k
    | .rng _ => .stuck
    | .call f l => match Φ f with
      | some φ => (evL (fun k e => ev Φ Γ n .val ρ k e) l k).bind fun ds k => φ k ds
      | Option.none => .stuck
    | .tup l => (evL (fun k e => ev Φ Γ n .val ρ k e) l k).bind fun ds k => if ds.length ≤ 1000 then .ok (.tuple ds) k else .stuck
    | .lst l => (evL (fun k e => ev Φ Γ n .val ρ k e) l k).bind fun ds k => if ds.length ≤ 1000 then .ok (.list ds) k else .stuck
    | .comp a x it => (ev Φ Γ n .iter ρ k it).bind fun d k => match d with
      | .list items => (evM (fun d k => ev Φ Γ n .val ((x, .val d) :: ρ) k a) items k).bind fun ys k => .ok (.list ys) k
      | _ => .stuck
    | .other => .stuck

end Mine

open PySem PySem.W PySem.Spec PySem.Calls PyProof.Rows
set_option Elab.async false
set_option maxRecDepth 100000
namespace Mine

/-- the law's box: its address, its list's address and the script's ints -/
noncomputable abbrev Bx := Option (Addr × (Addr × List Int))

mutual
/-- the value shows the datum in the heap, by objects outside of X; a box is shown by an empty dict -/
inductive Rep (bx : Bx) (X : Addr → Prop) (h : Heap) : Value → D → Prop
  | none : Rep bx X h .none .none
  | bool (b : Bool) : Rep bx X h (.bool b) (.bool b)
  | int (i : Int) (t : Tok) : Rep bx X h (.int i t) (.int i)
  | str (x : Str) (t : Tok) : Rep bx X h (.str x t) (.str x)
  | tup {a : Addr} {o : Obj} {vs : List Value} {n : Nat} {ds : List D} : ¬ X a → h.get? a = some o → o.cls = .type "tuple" → o.data = .seq vs.toArray n → RepL bx X h vs ds → Rep bx X h (.ref a) (.tuple ds)
  | lst {a : Addr} {vs : List Value} {n : Nat} {ds : List D} : ¬ X a → h.get? a = some { cls := .type "list", data := .seq vs.toArray n } → RepL bx X h vs ds → Rep bx X h (.ref a) (.list ds)
  | box {a : Addr} {xs : Addr × List Int} : bx = some (a, xs) → Rep bx X h (.ref a) (.dict [])
inductive RepL (bx : Bx) (X : Addr → Prop) (h : Heap) : List Value → List D → Prop
  | nil : RepL bx X h [] []
  | cons {v : Value} {vs : List Value} {d : D} {ds : List D} : Rep bx X h v d → RepL bx X h vs ds → RepL bx X h (v :: vs) (d :: ds)
end

section
variable {bx bx' : Bx} {X X' : Addr → Prop} {h h' : Heap}

mutual
theorem Rep.map (H : ∀ a o, ¬ X a → h.get? a = some o → ¬ X' a ∧ h'.get? a = some o) (hb : ∀ a xs, bx = some (a, xs) → bx' = some (a, xs)) : ∀ {v : Value} {d : D}, Rep bx X h v d → Rep bx' X' h' v d
  | _, _, .none => .none
  | _, _, .bool b => .bool b
  | _, _, .int i t => .int i t
  | _, _, .str x t => .str x t
  | _, _, .tup nx e c q r => .tup (H _ _ nx e).1 (H _ _ nx e).2 c q (RepL.map H hb r)
  | _, _, .lst nx e r => .lst (H _ _ nx e).1 (H _ _ nx e).2 (RepL.map H hb r)
  | _, _, .box e => .box (hb _ _ e)
theorem RepL.map (H : ∀ a o, ¬ X a → h.get? a = some o → ¬ X' a ∧ h'.get? a = some o) (hb : ∀ a xs, bx = some (a, xs) → bx' = some (a, xs)) : ∀ {vs : List Value} {ds : List D}, RepL bx X h vs ds → RepL bx' X' h' vs ds
  | _, _, .nil => .nil
  | _, _, .cons a r => .cons (Rep.map H hb a) (RepL.map H hb r)
end

theorem RepL.length {vs : List Value} {ds : List D} (r : RepL bx X h vs ds) : vs.length = ds.length := by
  induction vs generalizing ds with
  | nil => cases r; rfl
  | cons v vs ih => cases r with | cons _ r => rw [List.length_cons, List.length_cons, ih r]
theorem RepL.append {vs ws : List Value} {ds es : List D} (r : RepL bx X h vs ds) (q : RepL bx X h ws es) : RepL bx X h (vs ++ ws) (ds ++ es) := by
  induction vs generalizing ds with
  | nil => cases r; exact q
  | cons v vs ih => cases r with | cons a r => exact .cons a (ih r)
theorem RepL.get {vs : List Value} {ds : List D} (r : RepL bx X h vs ds) {i : Nat} {d : D} (e : ds[i]? = some d) : ∃ v, vs[i]? = some v ∧ Rep bx X h v d := by
  induction vs generalizing ds i with
  | nil => cases r; simp at e
  | cons v vs ih =>
    cases r with
    | cons a r =>
      cases i with
      | zero => simp at e; subst e; exact ⟨v, rfl, a⟩
      | succ i => exact ih r (by simpa using e)
theorem RepL.getV {vs : List Value} {ds : List D} (r : RepL bx X h vs ds) {i : Nat} {v : Value} (e : vs[i]? = some v) : ∃ d, ds[i]? = some d ∧ Rep bx X h v d := by
  induction vs generalizing ds i with
  | nil => simp at e
  | cons w vs ih =>
    cases r with
    | cons a r =>
      cases i with
      | zero => simp at e; subst e; exact ⟨_, rfl, a⟩
      | succ i => simpa using ih r (by simpa using e)
theorem RepL.take {vs : List Value} {ds : List D} (r : RepL bx X h vs ds) : ∀ n, RepL bx X h (vs.take n) (ds.take n) := by
  induction vs generalizing ds with
  | nil => cases r; intro n; simpa using RepL.nil
  | cons v vs ih =>
    cases r with
    | cons a r =>
      intro n
      cases n with
      | zero => exact .nil
      | succ n => exact .cons a (ih r n)
theorem RepL.drop {vs : List Value} {ds : List D} (r : RepL bx X h vs ds) : ∀ n, RepL bx X h (vs.drop n) (ds.drop n) := by
  induction vs generalizing ds with
  | nil => cases r; intro n; simpa using RepL.nil
  | cons v vs ih =>
    cases r with
    | cons a r =>
      intro n
      cases n with
      | zero => exact .cons a r
      | succ n => exact ih r n
theorem RepL.rep {vs : List Value} {ds : List D} (r : RepL bx X h vs ds) : ∀ n, RepL bx X h (List.replicate n vs).flatten (List.replicate n ds).flatten
  | 0 => .nil
  | n + 1 => by rw [List.replicate_succ, List.replicate_succ, List.flatten_cons, List.flatten_cons]; exact r.append (r.rep n)

theorem lay_tail {x : D} {xs : List D} (e : PyData.canLayAll0 (x :: xs) = true) : x.canLay0 = true ∧ PyData.canLayAll0 xs = true := by
  simpa [PyData.canLayAll0, Bool.and_eq_true] using e

mutual
theorem Rep.reads : ∀ {v : Value} {d : D}, Rep bx X h v d → d.canLay0 = true → ∃ as, Reads h v d as
  | _, _, .none, _ => ⟨_, .none⟩
  | _, _, .bool b, _ => ⟨_, .bool b⟩
  | _, _, .int i t, _ => ⟨_, .int i t⟩
  | _, _, .str x t, _ => ⟨_, .str x t⟩
  | _, _, .tup _ e c q r, l => by
    obtain ⟨as, ra⟩ := RepL.reads r (by simpa [PyData.canLay0] using l)
    exact ⟨as, .tuple e c q (by simpa using ra)⟩
  | _, _, .lst _ e r, l => by
    obtain ⟨as, ra⟩ := RepL.reads r (by simpa [PyData.canLay0] using l)
    exact ⟨_, .list e rfl rfl (by simpa using ra)⟩
  | _, _, .box _, l => by simp [PyData.canLay0] at l
theorem RepL.reads : ∀ {vs : List Value} {ds : List D}, RepL bx X h vs ds → PyData.canLayAll0 ds = true → ∃ as, ReadsAll h vs ds as
  | _, _, .nil, _ => ⟨_, .nil⟩
  | _, _, .cons a r, l => by
    have ll := lay_tail l
    obtain ⟨as, ra⟩ := Rep.reads a ll.1
    obtain ⟨bs, rb⟩ := RepL.reads r ll.2
    exact ⟨_, .cons ra rb⟩
end
end

/-- the box at its k-th draw -/
noncomputable def BoxI (bx : Bx) (h : Heap) (k : Nat) : Prop :=
  match bx with
  | none => True
  | some (b, l, xs) => ∃ n vl nl tk, h.get? b = some { cls := .type "list", data := .seq #[.ref l, .int (k : Int) tk] n } ∧ h.get? l = some { cls := .type "list", data := .seq vl nl } ∧ IntsAre vl.toList xs ∧ l ≠ b

/-- the heap goes on: all but the frames' names and the box is as it was; the names are as they were -/
structure Ext (bx : Bx) (FL : List Addr) (h h' : Heap) : Prop where
  keep : ∀ b o, h.get? b = some o → b ∉ FL → (∀ xs, bx ≠ some (b, xs)) → h'.get? b = some o
  ns : ∀ b m, h.Ns b m → h'.Ns b m

section
variable {bx : Bx} {FL : List Addr} {h h' h'' : Heap}
theorem Ext.refl : Ext bx FL h h := ⟨fun _ _ e _ _ => e, fun _ _ e => e⟩
theorem Ext.trans (x : Ext bx FL h h') (y : Ext bx FL h' h'') : Ext bx FL h h'' := ⟨fun b o e n q => y.keep b o (x.keep b o e n q) n q, fun b m e => y.ns b m (x.ns b m e)⟩
theorem Ext.of (k : ∀ b o, h.get? b = some o → h'.get? b = some o) : Ext bx FL h h' := ⟨fun b o e _ _ => k b o e, fun _ _ e => e.keeps k⟩
end

/-- the run goes on -/
noncomputable def Step (bx : Bx) (FL : List Addr) (s s' : Shared) (k : Nat) : Prop := ∃ h' tk, s' = { s with heap := h', toks := tk } ∧ Ext bx FL s.heap h' ∧ BoxI bx h' k

theorem Step.trans {bx : Bx} {FL : List Addr} {s s' s'' : Shared} {k k' : Nat} (x : Step bx FL s s' k) (y : Step bx FL s' s'' k') : Step bx FL s s'' k' := by
  obtain ⟨h, t, rfl, e, _⟩ := x
  obtain ⟨h', t', rfl, e', b⟩ := y
  exact ⟨h', t', rfl, e.trans e', b⟩
theorem Step.ext {bx : Bx} {FL : List Addr} {s s' : Shared} {k : Nat} (x : Step bx FL s s' k) : Ext bx FL s.heap s'.heap := by
  obtain ⟨h, t, rfl, e, _⟩ := x
  exact e
theorem Step.box {bx : Bx} {FL : List Addr} {s s' : Shared} {k : Nat} (x : Step bx FL s s' k) : BoxI bx s'.heap k := by
  obtain ⟨h, t, rfl, _, b⟩ := x
  exact b

/-- a name's value in an environment -/
noncomputable def Holds (ε : Env) (h : Heap) (x : Str) (v : Value) : Prop :=
  (ε.kindOf x = some .local ∧ ∃ m, h.Ns ε.locals m ∧ m x = some v) ∨
  (ε.kindOf x = some .cell ∧ ∃ c o, ε.cells.lookup x = some c ∧ h.get? c = some o ∧ o.data = .cell (some v))

/-- an exception in flight, made by the text's class since h₀; `tr`: it bears a traceback -/
structure ExcAt (C : Addr) (tr : Bool) (h₀ h : Heap) (e : Addr) (kd : Str) : Prop where
  ob : ∃ oe vs dx od es ep tk, h.get? e = some oe ∧ h₀.get? e = none ∧ oe.cls = .ref C ∧ oe.data = .fields vs ∧ oe.dict = some dx ∧ dx ≠ e ∧ h.get? dx = some od ∧ h₀.get? dx = none ∧ od.data = .dict es ep ∧ StrKeys es ∧ nsFind es "kind" = some (.str kd tk) ∧
    ((tr = false ∧ vs[1]? = some .none) ∨ ∃ T oT ts f, vs[1]? = some (.ref T) ∧ h₀.get? T = none ∧ T ≠ e ∧ T ≠ dx ∧ h.get? T = some oT ∧ oT.data = .fields ts ∧ ts[3]? = some f)

/-- what every run of the text's code stands on -/
structure Act (A : Around) (FL : List Addr) (n : Nat) (h : Heap) : Prop where
  hd : A.handled = none
  fr : ∃ l, A.frames = some l ∧ l.map (·.frame) = FL.map some ∧ ∀ e ∈ l, e.scope.kind ≠ .module
  ns : ∀ L ∈ FL, ∃ m, h.Ns L m
  dep : A.depth + n < recursionLimit
  uni : A.units + 8 * n + 80 < cLine

/-- the standing world of a walk -/
structure Wd (bx : Bx) (hb : Heap) (X : Addr → Prop) (FL : List Addr) (h : Heap) (k : Nat) : Prop where
  base : ∀ b o, hb.get? b = some o → h.get? b = some o
  flb : ∀ b ∈ FL, X b
  xok : ∀ a, X a → hb.get? a = none ∧ ∃ o, h.get? a = some o
  box : BoxI bx h k
  bxx : ∀ b xs, bx = some (b, xs) → X b

theorem Rz.good_bind {α β : Type} {xc : Prop} {r : Rz α} {f : α → Nat → Rz β} (h : (r.bind f).good xc) : r.good xc := by
  cases r <;> simp_all [Rz.bind, Rz.good]

theorem Wd.ext {bx : Bx} {hb : Heap} {X : Addr → Prop} {FL : List Addr} {h h' : Heap} {k k' : Nat} (W : Wd bx hb X FL h k) (hns : ∀ L ∈ FL, ∃ m, h.Ns L m) (e : Ext bx FL h h') (b : BoxI bx h' k') : Wd bx hb X FL h' k' where
  base := fun a o q => e.keep a o (W.base a o q) (fun m => by have := (W.xok a (W.flb a m)).1; rw [this] at q; cases q) (fun xs z => by have := (W.xok a (W.bxx _ _ z)).1; rw [this] at q; cases q)
  flb := W.flb
  xok := fun a xa => ⟨(W.xok a xa).1, by
    obtain ⟨o, ho⟩ := (W.xok a xa).2
    by_cases hf : a ∈ FL
    · obtain ⟨m, hm⟩ := hns a hf
      obtain ⟨o', _, _, ho', _⟩ := e.ns a m hm
      exact ⟨o', ho'⟩
    · cases bx with
      | none => exact ⟨o, e.keep a o ho hf (by intro xs z; cases z)⟩
      | some p =>
        obtain ⟨c, xs⟩ := p
        by_cases hc : a = c
        · subst hc
          obtain ⟨_, _, _, _, hc', _⟩ := b
          exact ⟨_, hc'⟩
        · exact ⟨o, e.keep a o ho hf (by intro ys z; cases z; exact hc rfl)⟩⟩
  box := b
  bxx := W.bxx

theorem Act.ext {A : Around} {bx : Bx} {FL : List Addr} {n : Nat} {h h' : Heap} (a : Act A FL n h) (e : Ext bx FL h h') : Act A FL n h' :=
  ⟨a.hd, a.fr, fun L hL => let ⟨m, hm⟩ := a.ns L hL; ⟨m, e.ns L m hm⟩, a.dep, a.uni⟩

section
variable {bx : Bx} {hb : Heap} {X : Addr → Prop} {FL : List Addr} {h h' : Heap} {k k' : Nat}
theorem Rep.ext (W : Wd bx hb X FL h k) (e : Ext bx FL h h') {v : Value} {d : D} (r : Rep bx X h v d) : Rep bx X h' v d :=
  r.map (fun a o nx q => ⟨nx, e.keep a o q (fun m => nx (W.flb a m)) fun xs z => nx (W.bxx _ _ z)⟩) fun _ _ z => z
theorem RepL.ext (W : Wd bx hb X FL h k) (e : Ext bx FL h h') {vs : List Value} {ds : List D} (r : RepL bx X h vs ds) : RepL bx X h' vs ds :=
  r.map (fun a o nx q => ⟨nx, e.keep a o q (fun m => nx (W.flb a m)) fun xs z => nx (W.bxx _ _ z)⟩) fun _ _ z => z
theorem BoxI.ext (W : Wd bx hb X FL h k) (hns : ∀ L ∈ FL, ∃ m, h.Ns L m) (hk : ∀ b o, h.get? b = some o → b ∉ FL → h'.get? b = some o) : BoxI bx h' k := by
  have B := W.box
  cases bx with
  | none => trivial
  | some p =>
    obtain ⟨b, l, xs⟩ := p
    obtain ⟨n, vl, nl, tk, h1, h2, h3, h4⟩ := B
    have nf : ∀ a (o : Obj), h.get? a = some o → (∀ es ep, o.data ≠ .dict es ep) → a ∉ FL := fun a o q nd m => by
      obtain ⟨_, o', es, ep, q', hd, _⟩ := hns a m
      rw [q] at q'; cases q'
      exact nd _ _ hd
    exact ⟨n, vl, nl, tk, hk _ _ h1 (nf _ _ h1 (by intro _ _ z; cases z)), hk _ _ h2 (nf _ _ h2 (by intro _ _ z; cases z)), h3, h4⟩
/-- the heap has only grown -/
theorem Step.grow (W : Wd bx hb X FL h k) (hns : ∀ L ∈ FL, ∃ m, h.Ns L m) {s : Shared} (hs : s.heap = h) {h' : Heap} {tk : Nat} (g : ∀ b o, h.get? b = some o → h'.get? b = some o) : Step bx FL s { s with heap := h', toks := tk } k :=
  ⟨h', tk, rfl, hs ▸ Ext.of g, BoxI.ext W hns fun b o e _ => g b o e⟩
end

end Mine

open PySem PySem.W PySem.Spec PySem.Calls PyProof.Rows
set_option Elab.async false
set_option maxRecDepth 100000
set_option linter.unusedVariables false
namespace Mine

noncomputable def PQ (bx : Bx) (FL : List Addr) (X : Addr → Prop) (s : Shared) (r : Rz D) : Value → Shared → Prop := fun v s' => ∃ d k, r = .ok d k ∧ Step bx FL s s' k ∧ Rep bx X s'.heap v d
noncomputable def PQL (bx : Bx) (FL : List Addr) (X : Addr → Prop) (s : Shared) (r : Rz (List D)) : List Value → Shared → Prop := fun vs s' => ∃ ds k, r = .ok ds k ∧ Step bx FL s s' k ∧ RepL bx X s'.heap vs ds
noncomputable def PQB (bx : Bx) (FL : List Addr) (s : Shared) (r : Rz D) : Bool → Shared → Prop := fun b s' => ∃ k, r = .ok (.bool b) k ∧ Step bx FL s s' k
noncomputable def PE {α : Type} (C : Addr) (bx : Bx) (FL : List Addr) (s : Shared) (r : Rz α) : Value → Shared → Prop := fun e s' => ∃ kd k a, r = .exc kd k ∧ e = .ref a ∧ Step bx FL s s' k ∧ ExcAt C false s.heap s'.heap a kd

/-- all objects but one: what the library calls news -/
noncomputable def allN (hb : Heap) (L : Addr) (h : Heap) : List (Addr × Obj) :=
  (List.range h.objs.size).filterMap fun b => if b = L then none else match hb.get? b with
    | some _ => none
    | none => (h.get? b).map fun o => (b, o)

theorem mem_allN {hb h : Heap} {L b : Addr} {o : Obj} (hL : b ≠ L) (hn : hb.get? b = none) (e : h.get? b = some o) : (b, o) ∈ allN hb L h := by
  unfold allN
  rw [List.mem_filterMap]
  exact ⟨b, List.mem_range.mpr (Heap.lt_size e), by rw [if_neg hL, hn, e]; rfl⟩
theorem allN_mem {hb h : Heap} {L : Addr} {p : Addr × Obj} (hp : p ∈ allN hb L h) : h.get? p.1 = some p.2 ∧ p.1 ≠ L ∧ hb.get? p.1 = none := by
  unfold allN at hp
  rw [List.mem_filterMap] at hp
  obtain ⟨b, _, e⟩ := hp
  split at e
  · cases e
  · rename_i hL
    split at e
    · cases e
    · rename_i hn
      cases q : h.get? b with
      | none => rw [q] at e; cases e
      | some o => rw [q] at e; cases e; exact ⟨q, hL, hn⟩
theorem news_allN {hb h : Heap} {L : Addr} : News hb L h (allN hb L h) := fun _ hp => allN_mem hp

/-- grown: every object stands but those of the frames, whose names stand -/
theorem ext_of_news {bx : Bx} {FL : List Addr} {hb h h' : Heap} {L : Addr} {m : Str → Option Value} (hL : L ∈ FL) (hn : h.Ns L m) (F : Fr hb L h' m) (N : News hb L h' (allN hb L h)) (hbk : ∀ b o, hb.get? b = some o → h.get? b = some o) :
    Ext bx FL h h' ∧ ∀ b o, h.get? b = some o → b ∉ FL → h'.get? b = some o := by
  have k : ∀ b o, h.get? b = some o → b ≠ L → h'.get? b = some o := fun b o e hne => by
    cases q : hb.get? b with
    | none => exact (N _ (mem_allN hne q e)).1
    | some o' =>
      have := hbk b o' q
      rw [e] at this; cases this
      exact F.keep b o q
  refine ⟨⟨fun b o e nf _ => k b o e fun z => nf (z ▸ hL), fun b m' e => ?_⟩, fun b o e nf => k b o e fun z => nf (z ▸ hL)⟩
  by_cases z : b = L
  · subst z
    obtain ⟨o, es, ep, h1, h2, h3, h4⟩ := e
    obtain ⟨o', es', ep', g1, g2, g3, g4⟩ := hn
    rw [h1] at g1; cases g1
    rw [h2] at g2; cases g2
    obtain ⟨o'', es'', ep'', f1, f2, f3, f4⟩ := F.ns
    exact ⟨o'', es'', ep'', f1, f2, f3, fun x => (f4 x).trans ((g4 x).symm.trans (h4 x))⟩
  · obtain ⟨o, es, ep, h1, r⟩ := e
    exact ⟨o, es, ep, k b o h1 z, r⟩

/-- the standing facts at a place of an expression -/
structure Cx (bx : Bx) (hb : Heap) (A : Around) (FL : List Addr) (nn : Nat) (X : Addr → Prop) (s : Shared) (k : Nat) : Prop where
  act : Act A FL nn s.heap
  wd : Wd bx hb X FL s.heap k
  fl : ∃ L ∈ FL, hb.objs.size ≤ L

theorem Cx.step {bx : Bx} {hb : Heap} {A : Around} {FL : List Addr} {nn : Nat} {X : Addr → Prop} {s s' : Shared} {k k' : Nat} (c : Cx bx hb A FL nn X s k) (st : Step bx FL s s' k') : Cx bx hb A FL nn X s' k' :=
  ⟨c.act.ext st.ext, c.wd.ext c.act.ns st.ext st.box, c.fl⟩
theorem Cx.toks {bx : Bx} {hb : Heap} {A : Around} {FL : List Addr} {nn : Nat} {X : Addr → Prop} {s : Shared} {k : Nat} (c : Cx bx hb A FL nn X s k) (tk : Nat) : Step bx FL s { s with toks := tk } k :=
  ⟨s.heap, tk, rfl, Ext.refl, c.wd.box⟩
theorem Cx.self {bx : Bx} {hb : Heap} {A : Around} {FL : List Addr} {nn : Nat} {X : Addr → Prop} {s : Shared} {k : Nat} (c : Cx bx hb A FL nn X s k) : Step bx FL s s k :=
  ⟨s.heap, s.toks, rfl, Ext.refl, c.wd.box⟩
theorem Cx.grow {bx : Bx} {hb : Heap} {A : Around} {FL : List Addr} {nn : Nat} {X : Addr → Prop} {s : Shared} {k : Nat} (c : Cx bx hb A FL nn X s k) {h' : Heap} {tk : Nat} (g : ∀ b o, s.heap.get? b = some o → h'.get? b = some o) : Step bx FL s { s with heap := h', toks := tk } k :=
  Step.grow c.wd c.act.ns rfl g
theorem Cx.fr {bx : Bx} {hb : Heap} {A : Around} {FL : List Addr} {nn : Nat} {X : Addr → Prop} {s : Shared} {k : Nat} (c : Cx bx hb A FL nn X s k) : ∃ L m, L ∈ FL ∧ Fr hb L s.heap m ∧ News hb L s.heap (allN hb L s.heap) := by
  obtain ⟨L, hL, ha⟩ := c.fl
  obtain ⟨m, hm⟩ := c.act.ns L hL
  exact ⟨L, m, hL, ⟨hm, c.wd.base, ha⟩, news_allN⟩
theorem Cx.news {bx : Bx} {hb : Heap} {A : Around} {FL : List Addr} {nn : Nat} {X : Addr → Prop} {s : Shared} {k : Nat} (c : Cx bx hb A FL nn X s k) {L : Addr} {m : Str → Option Value} (hL : L ∈ FL) (F : Fr hb L s.heap m) {h' : Heap} {tk : Nat} (F' : Fr hb L h' m) (N' : News hb L h' (allN hb L s.heap)) :
    Step bx FL s { s with heap := h', toks := tk } k := by
  obtain ⟨e, g⟩ := ext_of_news (bx := bx) hL F.ns F' N' c.wd.base
  exact ⟨h', tk, rfl, e, BoxI.ext c.wd c.act.ns g⟩
theorem Cx.fresh {bx : Bx} {hb : Heap} {A : Around} {FL : List Addr} {nn : Nat} {X : Addr → Prop} {s : Shared} {k : Nat} (c : Cx bx hb A FL nn X s k) : ¬ X s.heap.objs.size := fun x => by
  obtain ⟨o, e⟩ := (c.wd.xok _ x).2
  exact absurd (Heap.lt_size e) (Nat.lt_irrefl _)

theorem get_none_size (h : Heap) : h.get? h.objs.size = none := by
  cases e : h.get? h.objs.size with
  | none => rfl
  | some o => exact absurd (Heap.lt_size e) (Nat.lt_irrefl _)

section
variable {prog : Program} {w : World} {bx : Bx} {hb : Heap} {A : Around} {FL : List Addr} {nn : Nat} {X : Addr → Prop} {s : Shared} {k : Nat} {E : Value → Shared → Prop}

theorem PQ.mk {r : Rz D} {v : Value} {s' : Shared} {d : D} {k' : Nat} (e : r = .ok d k') (st : Step bx FL s s' k') (p : Rep bx X s'.heap v d) : PQ bx FL X s r v s' := ⟨d, k', e, st, p⟩

theorem list_push {c : Cx bx hb A FL nn X s k} {vs : List Value} {ds : List D} (r : RepL bx X s.heap vs ds) {n : Nat} {h' : Heap} {a : Addr} (na : ¬ X a) (g : Ext bx FL s.heap h') (e : h'.get? a = some { cls := .type "list", data := .seq vs.toArray n }) : Rep bx X h' (.ref a) (.list ds) :=
  .lst na e (r.ext c.wd g)

theorem foldl_flat (items : Array Value) : ∀ (n : Nat) (acc : Array Value), List.foldl (fun x1 x2 => x1 ++ x2) acc (List.replicate n items) = (acc.toList ++ (List.replicate n items.toList).flatten).toArray
  | 0, acc => by simp
  | n + 1, acc => by
    rw [List.replicate_succ, List.foldl_cons, foldl_flat items n, List.replicate_succ, List.flatten_cons]
    simp

theorem i2_of {va vb : Value} {a b : D} {f : Int → Int → Rz D} {h : Heap} (ra : Rep bx X h va a) (rb : Rep bx X h vb b) (hr : i2 a b f ≠ .stuck) : ∃ x y t u, va = .int x t ∧ vb = .int y u ∧ i2 a b f = f x y ∧ f x y ≠ .stuck := by
  cases ra with
  | int x t => cases rb with
    | int y u => exact ⟨x, y, t, u, rfl, rfl, rfl, hr⟩
    | _ => exact (hr rfl).elim
  | _ => exact (hr rfl).elim
theorem if_of {p : Prop} [Decidable p] {x : Rz D} (hr : (if p then x else .stuck) ≠ .stuck) : p ∧ (if p then x else .stuck) = x := by
  by_cases q : p
  · exact ⟨q, if_pos q⟩
  · rw [if_neg q] at hr; exact (hr rfl).elim
theorem addD_sound (c : Cx bx hb A FL nn X s k) {va vb : Value} {a b : D} (ra : Rep bx X s.heap va a) (rb : Rep bx X s.heap vb b) (hr : addD a b k ≠ .stuck) :
    wpAny (model prog w) A (binaryOp .Add va vb) (PQ bx FL X s (addD a b k)) E s := by
  cases ra with
  | int x t => cases rb with
    | int y u => exact add_int ⟨_, _, rfl, c.toks _, .int _ _⟩
    | _ => exact (hr rfl).elim
  | str x t => cases rb with
    | str y u =>
      obtain ⟨hsz, e⟩ := if_of hr
      exact SB.add (fun t' tk => ⟨_, _, e, c.toks _, .str _ _⟩) hsz
    | _ => exact (hr rfl).elim
  | lst na ea qa => cases rb with
    | lst nb eb qb =>
      obtain ⟨hsz, e⟩ := if_of hr
      rename_i aa vs n _ ab ws n' _
      obtain ⟨L, m, hL, F, N⟩ := c.fr
      refine add_arrays (its := vs.toArray) (its2 := ws.toArray) F N ⟨_, ea, rfl, _, rfl⟩ ⟨_, eb, rfl, _, rfl⟩ (fun h' F' N' => ?_) (by simpa [qa.length, qb.length] using hsz)
      have st : Step bx FL s { s with heap := h' } k := c.news (tk := s.toks) hL F F' fun p hp => N' p (.tail _ hp)
      refine ⟨_, _, e, st, .lst c.fresh (n := 0) (N' _ (.head _)).1 ?_⟩
      simpa using (qa.append qb).ext c.wd st.ext
    | _ => exact (hr rfl).elim
  | _ => exact (hr rfl).elim
theorem subD_sound (c : Cx bx hb A FL nn X s k) {va vb : Value} {a b : D} (ra : Rep bx X s.heap va a) (rb : Rep bx X s.heap vb b) (hr : subD a b k ≠ .stuck) :
    wpAny (model prog w) A (binaryOp .Sub va vb) (PQ bx FL X s (subD a b k)) E s := by
  cases ra with
  | int x t => cases rb with
    | int y u => exact sub_int ⟨_, _, rfl, c.toks _, .int _ _⟩
    | _ => exact (hr rfl).elim
  | bool x => cases rb with
    | bool y => exact sub_bool ⟨_, _, rfl, c.toks _, .int _ _⟩
    | _ => exact (hr rfl).elim
  | _ => exact (hr rfl).elim
theorem mulD_sound (c : Cx bx hb A FL nn X s k) {va vb : Value} {a b : D} (ra : Rep bx X s.heap va a) (rb : Rep bx X s.heap vb b) (hr : mulD a b k ≠ .stuck) :
    wpAny (model prog w) A (binaryOp .Mult va vb) (PQ bx FL X s (mulD a b k)) E s := by
  cases rb with
  | int y u => cases ra with
    | int x t =>
      obtain ⟨hm, e⟩ := if_of hr
      exact mul_int ⟨_, _, e, c.toks _, .int _ _⟩ (IntMulOk.of_le (Nat.le_refl _) (Nat.le_refl _) (of_decide_eq_true hm))
    | lst na ea qa =>
      obtain ⟨hm, e⟩ := if_of hr
      rename_i aa vs n _
      obtain ⟨L, m, hL, F, N⟩ := c.fr
      obtain ⟨h1, h2, h3⟩ := hm
      refine mul_list (items := vs.toArray) F N ea (by omega) (by omega) (by simp only [List.size_toArray, qa.length]; simpa [sizeLine] using h3) (fun h' F' N' => ?_)
      have st : Step bx FL s { s with heap := h' } k := c.news (tk := s.toks) hL F F' fun p hp => N' p (.tail _ hp)
      have hq := (N' _ (.head _)).1
      rw [foldl_flat] at hq
      have e2 : (#[] : Array Value).toList ++ (List.replicate (if vs.toArray.isEmpty = true then 0 else y.toNat) vs.toArray.toList).flatten = (List.replicate y.toNat vs).flatten := by
        cases vs with
        | nil => simp
        | cons v vs => simp
      rw [e2] at hq
      exact ⟨_, _, e, st, .lst c.fresh hq ((qa.rep _).ext c.wd st.ext)⟩
    | _ => exact (hr rfl).elim
  | _ => exact (hr (by cases a <;> rfl)).elim

theorem binD_sound (c : Cx bx hb A FL nn X s k) {o : Operator} {va vb : Value} {a b : D} (ra : Rep bx X s.heap va a) (rb : Rep bx X s.heap vb b) (hr : binD o a b k ≠ .stuck) :
    wpAny (model prog w) A (binaryOp o va vb) (PQ bx FL X s (binD o a b k)) E s := by
  cases o with
  | Add => exact addD_sound c ra rb hr
  | Sub => exact subD_sound c ra rb hr
  | Mult => exact mulD_sound c ra rb hr
  | FloorDiv =>
    obtain ⟨x, y, t, u, rfl, rfl, e, hr'⟩ := i2_of ra rb hr
    obtain ⟨hm, e'⟩ := if_of hr'
    exact floordiv_int hm.1 ⟨_, _, e.trans e', c.toks _, .int _ _⟩ (.inl hm.2)
  | Mod =>
    obtain ⟨x, y, t, u, rfl, rfl, e, hr'⟩ := i2_of ra rb hr
    obtain ⟨hm, e'⟩ := if_of hr'
    exact mod_int' hm ⟨_, _, e.trans e', c.toks _, .int _ _⟩
  | Pow =>
    obtain ⟨x, y, t, u, rfl, rfl, e, hr'⟩ := i2_of ra rb hr
    obtain ⟨hm, e'⟩ := if_of hr'
    exact pow_int hm.1 (by simpa using hm.2) ⟨_, _, e.trans e', c.toks _, .int _ _⟩
  | _ => exact (hr rfl).elim
end
end Mine

open PySem PySem.W PySem.Spec PySem.Calls PyProof.Rows
set_option Elab.async false
set_option maxRecDepth 100000
set_option linter.unusedVariables false
namespace Mine

section
variable {prog : Program} {w : World} {bx : Bx} {hb : Heap} {A : Around} {FL : List Addr} {nn : Nat} {X : Addr → Prop} {s : Shared} {k : Nat} {E : Value → Shared → Prop}

theorem shp_parts {d : D} (h : shp d = true) : d.canLay0 = true ∧ d.depth ≤ 64 := by
  unfold shp SeqAt.shaped at h
  rw [Bool.and_eq_true, decide_eq_true_eq] at h
  exact h

theorem depth_tuple {ys : List D} (h : (PyData.tuple ys).depth ≤ 64) : PyData.depthAll ys ≤ 64 := by
  simp only [PyData.depth] at h
  omega

theorem inD_of {a b : D} {f : List D → Rz D} (hr : inD a b f ≠ .stuck) : ∃ ys, b = .tuple ys ∧ shp a = true ∧ shp (.tuple ys) = true ∧ inD a b f = f ys := by
  cases b with
  | tuple ys =>
    obtain ⟨h, e⟩ := if_of hr
    rw [Bool.and_eq_true] at h
    exact ⟨ys, rfl, h.1, h.2, e⟩
  | _ => exact (hr rfl).elim
theorem cmpD_sound (c : Cx bx hb A FL nn X s k) {o : CmpOp} {va vb : Value} {a b : D} (ra : Rep bx X s.heap va a) (rb : Rep bx X s.heap vb b) (hr : cmpD o a b k ≠ .stuck) :
    wpAny (model prog w) A (compareOp o va vb) (PQ bx FL X s (cmpD o a b k)) E s := by
  have hu := c.act.uni
  cases o with
  | Lt =>
    obtain ⟨x, y, t, u, rfl, rfl, e, _⟩ := i2_of ra rb hr
    exact lt_int ⟨_, _, e, c.self, .bool _⟩
  | LtE =>
    obtain ⟨x, y, t, u, rfl, rfl, e, _⟩ := i2_of ra rb hr
    exact le_int ⟨_, _, e, c.self, .bool _⟩
  | Gt =>
    obtain ⟨x, y, t, u, rfl, rfl, e, _⟩ := i2_of ra rb hr
    exact gt_int ⟨_, _, e, c.self, .bool _⟩
  | GtE =>
    obtain ⟨x, y, t, u, rfl, rfl, e, _⟩ := i2_of ra rb hr
    exact ge_int ⟨_, _, e, c.self, .bool _⟩
  | Eq =>
    obtain ⟨hs, e⟩ := if_of hr
    rw [Bool.and_eq_true] at hs
    obtain ⟨as, qa⟩ := ra.reads (shp_parts hs.1).1
    obtain ⟨bs, qb⟩ := rb.reads (shp_parts hs.2).1
    exact eq_dataH qa qb hs.1 hs.2 (by omega) ⟨_, _, e, c.self, .bool _⟩
  | NotEq =>
    obtain ⟨hs, e⟩ := if_of hr
    rw [Bool.and_eq_true] at hs
    obtain ⟨as, qa⟩ := ra.reads (shp_parts hs.1).1
    obtain ⟨bs, qb⟩ := rb.reads (shp_parts hs.2).1
    exact ne_dataH qa qb hs.1 hs.2 (by omega) ⟨_, _, e, c.self, .bool _⟩
  | In =>
    obtain ⟨ys, rfl, h1, h2, e⟩ := inD_of hr
    obtain ⟨as, qa⟩ := ra.reads (shp_parts h1).1
    obtain ⟨bs, qb⟩ := rb.reads (shp_parts h2).1
    have h2 := shp_parts h2
    have hd := (shp_parts h1).2
    exact SeqAt.in_tuple_reads qb qa (by simpa [PyData.canLay0] using h2.1) (shp_parts h1).1 (by omega) ⟨_, _, e, c.self, .bool _⟩
  | NotIn =>
    obtain ⟨ys, rfl, h1, h2, e⟩ := inD_of hr
    obtain ⟨as, qa⟩ := ra.reads (shp_parts h1).1
    obtain ⟨bs, qb⟩ := rb.reads (shp_parts h2).1
    have h2 := shp_parts h2
    have hd := (shp_parts h1).2
    exact SeqAt.notIn_tuple_reads qb qa (by simpa [PyData.canLay0] using h2.1) (shp_parts h1).1 (by omega) ⟨_, _, e, c.self, .bool _⟩
  | Is =>
    cases rb with
    | none =>
      have fin : PQ bx FL X s (Rz.ok (PyData.bool false) k) (.bool false) s := ⟨_, _, rfl, c.self, .bool _⟩
      cases ra with
      | none => exact wpAny_is_plain (by rfl) ⟨_, _, rfl, c.self, .bool _⟩
      | bool b => exact is_bool_none fin
      | int i t => exact is_int_none fin
      | str x t => exact is_str_none fin
      | tup => exact is_ref_none fin
      | lst => exact is_ref_none fin
      | box => exact (hr rfl).elim
    | _ => exact (hr rfl).elim
  | _ => exact (hr rfl).elim

theorem subscripted_plain {slice : PySem.Expr} (h : ∀ a b d p, slice ≠ .Slice a b d p) (o i : Value) : subscripted slice false o i = operate [o, i] (getItem o i) := by
  cases slice with
  | Slice a b d p => exact absurd rfl (h a b d p)
  | _ => rfl
theorem subscripted_slice {a b : Option PySem.Expr} {p : Pos} (o i : Value) : subscripted (.Slice a b Option.none p) false o i = operate [i, o] (getItem o i) := rfl

theorem idxD_sound (c : Cx bx hb A FL nn X s k) {value slice : PySem.Expr} (hsl : ∀ a b d p, slice ≠ .Slice a b d p) {va vi : Value} {a i : D} (ra : Rep bx X s.heap va a) (ri : Rep bx X s.heap vi i) (hr : idxD a i k ≠ .stuck) :
    wpAny (model prog w) A (subscriptTail value slice va vi) (PQ bx FL X s (idxD a i k)) E s := by
  unfold idxD at hr ⊢
  revert hr
  split <;> intro hr
  · split at hr
    · rename_i hj
      rw [if_pos hj]
      cases ri
      rename_i l j t
      cases ra with
      | tup na ea ca qa r =>
        split at hr
        · rename_i d hd
          obtain ⟨v, hv, rv⟩ := r.get hd
          have hlt : j.toNat < l.length := by
            rcases Nat.lt_or_ge j.toNat l.length with q | q
            · exact q
            · rw [List.getElem?_eq_none q] at hd; cases hd
          have hlen := r.length
          refine item_tupleT ⟨_, ea, ca, _, qa⟩ (by omega) (by omega) (j := j.toNat) ?_ hv ⟨_, _, rfl, c.self, rv⟩ (subscripted_plain hsl _ _)
          unfold seqIndex?
          have h1 : ¬ (j < 0) := by omega
          simp only [h1, if_false, Bool.and_eq_true, decide_eq_true_eq]
          rw [if_pos ⟨hj.1, by rw [hlen]; omega⟩]
        · exact absurd rfl hr
    · exact absurd rfl hr
  · split at hr
    · rename_i hj
      rw [if_pos hj]
      cases ri
      cases ra with
      | lst na ea r =>
        split at hr
        · rename_i d hd
          obtain ⟨v, hv, rv⟩ := r.get hd
          have hl : s.heap.IsList _ _ := ⟨_, ea, rfl, _, rfl⟩
          exact tail_any hl.typeIs slot_list_getitem.lookup (wpAny_getItem_list hl hj.1 (by omega) (by simpa using hv) ⟨_, _, rfl, c.self, rv⟩) (subscripted_plain hsl _ _)
        · exact absurd rfl hr
    · exact absurd rfl hr
  · exact absurd rfl hr

/-- a list that lies in the excluded part is read too -/
theorem idxO_sound (c : Cx bx hb A FL nn X s k) {value slice : PySem.Expr} (hsl : ∀ a b d p, slice ≠ .Slice a b d p) {a : Addr} {vi : Value} {vs : List Value} {n : Nat} {l : List D} {i : D}
    (ea : s.heap.get? a = some { cls := .type "list", data := .seq vs.toArray n }) (r : RepL bx X s.heap vs l) (ri : Rep bx X s.heap vi i) (hr : idxD (.list l) i k ≠ .stuck) :
    wpAny (model prog w) A (subscriptTail value slice (.ref a) vi) (PQ bx FL X s (idxD (.list l) i k)) E s := by
  unfold idxD at hr ⊢
  revert hr
  split <;> intro hr
  · exact absurd ‹PyData.list l = PyData.tuple _› (by intro h; cases h)
  · rename_i q; cases q
    split at hr
    · rename_i hj
      rw [if_pos hj]
      cases ri
      split at hr
      · rename_i d hd
        obtain ⟨v, hv, rv⟩ := r.get hd
        have hl : s.heap.IsList _ _ := ⟨_, ea, rfl, _, rfl⟩
        exact tail_any hl.typeIs slot_list_getitem.lookup (wpAny_getItem_list hl hj.1 (by omega) (by simpa using hv) ⟨_, _, rfl, c.self, rv⟩) (subscripted_plain hsl _ _)
      · exact absurd rfl hr
    · exact absurd rfl hr
  · exact absurd rfl hr

theorem pick_upto (vs : List Value) (y : Int) (h : 0 ≤ y) : (slicePick vs.toArray Option.none (some y) Option.none) = (vs.take y.toNat).toArray := by
  have e : sliceBounds Option.none (some y) Option.none vs.toArray.size = (((0 : Nat) : Int), ((min y.toNat vs.toArray.size : Nat) : Int), 1) := by
    simp only [sliceBounds, Option.getD_none, show (1 : Int) > 0 by decide, if_true, if_neg (show ¬ (y < 0) by omega)]
    congr 1
    congr 1
    omega
  rw [kmk_pick_nat _ e]
  simp only [List.drop_zero, Nat.sub_zero, List.size_toArray]
  rw [kmk_take_min]
theorem pick_from (vs : List Value) (x : Int) (h : 0 ≤ x) : (slicePick vs.toArray (some x) Option.none Option.none) = (vs.drop x.toNat).toArray := by
  have e : sliceBounds (some x) Option.none Option.none vs.toArray.size = (((min x.toNat vs.toArray.size : Nat) : Int), ((vs.toArray.size : Nat) : Int), 1) := by
    simp only [sliceBounds, Option.getD_none, show (1 : Int) > 0 by decide, if_true, if_neg (show ¬ (x < 0) by omega)]
    congr 1
    omega
  rw [kmk_pick_nat _ e]
  simp only [List.size_toArray]
  rw [kmk_drop_min, List.take_of_length_le (by rw [List.length_drop]; omega)]

theorem size_push (h : Heap) (o : Obj) : (h.push o).objs.size = h.objs.size + 1 := Heap.size_push ..

theorem slice_any (c : Cx bx hb A FL nn X s k) {value : PySem.Expr} {la ua : Option PySem.Expr} {p : Pos} {l : Addr} {vl vu : Value} {lo hi : Option Int} {vs : List Value} {n : Nat} {ys : List Value} {ds : List D} (hl : s.heap.get? l = some { cls := .type "list", data := .seq vs.toArray n })
    (pl : IsPart vl lo) (pu : IsPart vu hi) (hp : slicePick vs.toArray lo hi Option.none = ys.toArray) (r : RepL bx X s.heap ys ds) (hsz : vs.length ≤ sizeLine) :
    wpAny (model prog w) A (subscriptTail value (.Slice la ua Option.none p) (.ref l) (.ref s.heap.objs.size)) (PQ bx FL X s (.ok (.list ds) k)) E { s with heap := s.heap.push { cls := .type "slice", data := .fields #[vl, vu, .none] } } := by
  have il : s.heap.IsList l vs.toArray := ⟨_, hl, rfl, _, rfl⟩
  refine tail_any (Heap.IsList.typeIs (s := { s with heap := s.heap.push { cls := .type "slice", data := .fields #[vl, vu, .none] } }) (il.push _)) slot_list_getitem.lookup
    (wpAny_getItem_list_slice (il.push _) (Heap.IsSliceOf.new ..) pl pu .none (by simp) ?_ (by simpa using hsz)) (subscripted_slice _ _)
  have g : ∀ b o, s.heap.get? b = some o → ((s.heap.push { cls := .type "slice", data := .fields #[vl, vu, .none] }).push { cls := .type "list", data := .seq (slicePick vs.toArray lo hi Option.none) }).get? b = some o := fun b o e => Heap.get?_push_of_some _ (Heap.get?_push_of_some _ e)
  have st : Step bx FL s { s with heap := (s.heap.push { cls := .type "slice", data := .fields #[vl, vu, .none] }).push { cls := .type "list", data := .seq (slicePick vs.toArray lo hi Option.none) } } k := c.grow (tk := s.toks) g
  refine ⟨_, _, rfl, st, .lst (n := 0) (vs := ys) ?_ ?_ (r.ext c.wd st.ext)⟩
  · intro x
    obtain ⟨o, e⟩ := (c.wd.xok _ x).2
    have q := Heap.lt_size e
    show False
    dsimp only at q
    rw [size_push] at q
    exact absurd q (Nat.not_lt.mpr (Nat.le_succ _))
  · rw [← hp]
    exact Heap.get?_push_size _ rfl

theorem uptoD_sound (c : Cx bx hb A FL nn X s k) {value : PySem.Expr} {ua : Option PySem.Expr} {p : Pos} {va vi : Value} {a i : D} (ra : Rep bx X s.heap va a) (ri : Rep bx X s.heap vi i) (hr : uptoD a i k ≠ .stuck) :
    wpAny (model prog w) A (subscriptTail value (.Slice Option.none ua Option.none p) va (.ref s.heap.objs.size)) (PQ bx FL X s (uptoD a i k)) E { s with heap := s.heap.push { cls := .type "slice", data := .fields #[.none, vi, .none] } } := by
  unfold uptoD at hr ⊢
  revert hr
  split <;> intro hr
  · split at hr
    · rename_i hj
      rw [if_pos hj]
      cases ri
      cases ra with
      | lst na ea r => exact slice_any c ea .none (.int _ _) (pick_upto _ _ hj.1) (r.take _) (by rw [r.length]; exact hj.2)
    · exact absurd rfl hr
  · exact absurd rfl hr
theorem fromD_sound (c : Cx bx hb A FL nn X s k) {value : PySem.Expr} {ua : Option PySem.Expr} {p : Pos} {va vi : Value} {a i : D} (ra : Rep bx X s.heap va a) (ri : Rep bx X s.heap vi i) (hr : fromD a i k ≠ .stuck) :
    wpAny (model prog w) A (subscriptTail value (.Slice ua Option.none Option.none p) va (.ref s.heap.objs.size)) (PQ bx FL X s (fromD a i k)) E { s with heap := s.heap.push { cls := .type "slice", data := .fields #[vi, .none, .none] } } := by
  unfold fromD at hr ⊢
  revert hr
  split <;> intro hr
  · split at hr
    · rename_i hj
      rw [if_pos hj]
      cases ri
      cases ra with
      | lst na ea r => exact slice_any c ea (.int _ _) .none (pick_from _ _ hj.1) (r.drop _) (by rw [r.length]; exact hj.2)
    · exact absurd rfl hr
  · exact absurd rfl hr

noncomputable def biV : Bi → Value
  | .abs => .builtin "abs" | .len => .builtin "len" | .min => .builtin "min" | .max => .builtin "max" | .list => .type "list" | .str => .type "str"

theorem repL1 {vs : List Value} {d : D} {h : Heap} (r : RepL bx X h vs [d]) : ∃ v, vs = [v] ∧ Rep bx X h v d := by
  cases r with | cons a r => cases r; exact ⟨_, rfl, a⟩
theorem repL2 {vs : List Value} {d e : D} {h : Heap} (r : RepL bx X h vs [d, e]) : ∃ v u, vs = [v, u] ∧ Rep bx X h v d ∧ Rep bx X h u e := by
  cases r with | cons a r => cases r with | cons a' r => cases r; exact ⟨_, _, rfl, a, a'⟩
theorem bi1_of {vs : List Value} {ds : List D} {f : D → Rz D} {h : Heap} (r : RepL bx X h vs ds) (hr : bi1 ds f ≠ .stuck) : ∃ v d, vs = [v] ∧ Rep bx X h v d ∧ bi1 ds f = f d ∧ f d ≠ .stuck := by
  unfold bi1 at hr ⊢
  cases hd : hd1 ds with
  | none => rw [hd] at hr; exact (hr rfl).elim
  | some d =>
    rw [hd] at hr
    obtain rfl := hd1_of hd
    obtain ⟨v, rfl, q⟩ := repL1 r
    exact ⟨v, d, rfl, q, rfl, hr⟩
theorem bi2_of {vs : List Value} {ds : List D} {f : Int → Int → Rz D} {h : Heap} (r : RepL bx X h vs ds) (hr : bi2 ds f ≠ .stuck) : ∃ x y t u, vs = [.int x t, .int y u] ∧ bi2 ds f = f x y := by
  unfold bi2 at hr ⊢
  cases hd : hdD ds with
  | none => rw [hd] at hr; exact (hr rfl).elim
  | some p =>
    rw [hd] at hr
    obtain rfl : ds = [p.1, p.2] := by
      match ds, hd with
      | [a, b], hd => cases hd; rfl
    obtain ⟨v, u, rfl, q, q'⟩ := repL2 r
    obtain ⟨x, y, t, u, rfl, rfl, e, _⟩ := i2_of q q' hr
    exact ⟨x, y, t, u, rfl, e⟩
theorem biD_sound (c : Cx bx hb A FL nn X s k) {b : Bi} {vs : List Value} {ds : List D} (r : RepL bx X s.heap vs ds) (hr : biD b ds k ≠ .stuck) :
    wpAny (model prog w) A (call (biV b) vs) (PQ bx FL X s (biD b ds k)) E s := by
  have h24 : sizeLine = 2 ^ 24 := by decide
  cases b with
  | abs =>
    obtain ⟨v, d, rfl, q, e, hr'⟩ := bi1_of r hr
    cases q with
    | int x t => exact call_abs_int fun u tk => ⟨_, _, e, c.toks _, .int _ _⟩
    | _ => exact (hr' rfl).elim
  | len =>
    obtain ⟨v, d, rfl, q, e, hr'⟩ := bi1_of r hr
    cases q with
    | lst na ea ql =>
      obtain ⟨hsz, e'⟩ := if_of hr'
      rename_i a ws n l
      have e2 : ws.toArray.size = l.length := by rw [List.size_toArray]; exact ql.length
      refine Calls.call_len_list ⟨_, ea, rfl, _, rfl⟩ (by rw [e2]; omega) ?_
      rw [e2]
      exact ⟨_, _, e.trans e', c.toks _, .int _ _⟩
    | tup na ea ca qa ql =>
      obtain ⟨hsz, e'⟩ := if_of hr'
      rename_i a o ws n l
      have e2 : ws.toArray.size = l.length := by rw [List.size_toArray]; exact ql.length
      refine len_tuple ⟨_, ea, ca, _, qa⟩ (by rw [e2]; omega) ?_
      rw [e2]
      exact ⟨_, _, e.trans e', c.toks _, .int _ _⟩
    | _ => exact (hr' rfl).elim
  | min =>
    obtain ⟨x, y, t, u, rfl, e⟩ := bi2_of r hr
    obtain ⟨L, m, hL, F, N⟩ := c.fr
    exact min_two_N c.act.hd F N fun h' tk F' N' => ⟨_, _, e, c.news hL F F' N', .int _ _⟩
  | max =>
    obtain ⟨x, y, t, u, rfl, e⟩ := bi2_of r hr
    obtain ⟨L, m, hL, F, N⟩ := c.fr
    exact max_two_N c.act.hd F N fun h' tk F' N' => ⟨_, _, e, c.news hL F F' N', .int _ _⟩
  | list =>
    obtain ⟨v, d, rfl, q, e, hr'⟩ := bi1_of r hr
    cases q with
    | lst na ea ql =>
      obtain ⟨hsz, e'⟩ := if_of hr'
      refine call_list_seq _ (.inl rfl) ea rfl rfl (fun h' c' hk hD => ?_) (by rw [List.size_toArray, ql.length]; exact hsz)
      have st : Step bx FL s { s with heap := h' } k := c.grow (tk := s.toks) hk
      exact ⟨_, _, e.trans e', st, .lst c.fresh hD (ql.ext c.wd st.ext)⟩
    | tup na ea ca qa ql =>
      obtain ⟨hsz, e'⟩ := if_of hr'
      refine call_list_seq _ (.inr rfl) ea ca qa (fun h' c' hk hD => ?_) (by rw [List.size_toArray, ql.length]; exact hsz)
      have st : Step bx FL s { s with heap := h' } k := c.grow (tk := s.toks) hk
      exact ⟨_, _, e.trans e', st, .lst c.fresh hD (ql.ext c.wd st.ext)⟩
    | _ => exact (hr' rfl).elim
  | str =>
    obtain ⟨v, d, rfl, q, e, hr'⟩ := bi1_of r hr
    cases q with
    | int x t =>
      obtain ⟨hsz, e'⟩ := if_of hr'
      exact P.str_of_int hsz ⟨_, _, e.trans e', c.toks _, .str _ _⟩
    | _ => exact (hr' rfl).elim

end
end Mine

open PySem PySem.W PySem.Spec PySem.Calls PyProof.Rows
set_option Elab.async false
set_option maxRecDepth 100000
set_option linter.unusedVariables false
namespace Mine

section
variable {prog : Program} {w : World} {bx : Bx} {hb : Heap} {C : Addr} {A : Around} {FL : List Addr} {nn : Nat} {X : Addr → Prop} {s : Shared} {k : Nat} {E : Value → Shared → Prop} {xc : Prop}

theorem Step.old {s₀ s : Shared} {k₀ k₁ : Nat} (c₀ : Cx bx hb A FL nn X s₀ k₀) (st : Step bx FL s₀ s k₁) {b : Addr} (h : s.heap.get? b = none) : s₀.heap.get? b = none := by
  cases q : s₀.heap.get? b with
  | none => rfl
  | some o =>
    by_cases hf : b ∈ FL
    · obtain ⟨m, hm⟩ := c₀.act.ns b hf
      obtain ⟨o', _, _, e, _⟩ := st.ext.ns b m hm
      rw [h] at e; cases e
    · have B := st.box
      cases bx with
      | none =>
        have := st.ext.keep b o q hf (by intro xs z; cases z)
        rw [h] at this; cases this
      | some p =>
        obtain ⟨c, xs⟩ := p
        by_cases hc : b = c
        · subst hc
          obtain ⟨_, _, _, _, e, _⟩ := B
          rw [h] at e; cases e
        · have := st.ext.keep b o q hf (by intro ys z; cases z; exact hc rfl)
          rw [h] at this; cases this

theorem ExcAt.lift {tr : Bool} {h₀ h₁ h : Heap} {e : Addr} {kd : Str} (old : ∀ b, h₁.get? b = none → h₀.get? b = none) (x : ExcAt C tr h₁ h e kd) : ExcAt C tr h₀ h e kd := by
  obtain ⟨oe, vs, dx, od, es, ep, tk, a1, a2, a3, a4, a5, a6, a7, a8, a9, a10, a11, a12⟩ := x.ob
  refine ⟨oe, vs, dx, od, es, ep, tk, a1, old _ a2, a3, a4, a5, a6, a7, old _ a8, a9, a10, a11, ?_⟩
  rcases a12 with q | ⟨T, oT, ts, f, b1, b2, r⟩
  · exact .inl q
  · exact .inr ⟨T, oT, ts, f, b1, old _ b2, r⟩

theorem PE.lift {α β : Type} {r₁ : Rz α} {r : Rz β} {s₀ s s' : Shared} {k₀ k₁ : Nat} {e : Value} (c₀ : Cx bx hb A FL nn X s₀ k₀) (st : Step bx FL s₀ s k₁) (hx : ∀ kd k, r₁ = .exc kd k → r = .exc kd k)
    (h : PE C bx FL s r₁ e s') : PE C bx FL s₀ r e s' := by
  obtain ⟨kd, k, a, e1, e2, st', x⟩ := h
  exact ⟨kd, k, a, hx _ _ e1, e2, st.trans st', x.lift fun b => st.old c₀⟩

theorem exc_bind {α β : Type} {r₁ : Rz α} {f : α → Nat → Rz β} : ∀ kd k, r₁ = .exc kd k → r₁.bind f = .exc kd k := by
  intro kd k e; rw [e]; rfl
theorem ok_bind {α β : Type} {r₁ : Rz α} {f : α → Nat → Rz β} {a : α} {k : Nat} (e : r₁ = .ok a k) : r₁.bind f = f a k := by rw [e]; rfl

/-- an iterator over the items; Y: what the items' objects are not -/
structure IterAt (prog : Program) (w : World) (bx : Bx) (A : Around) (Y : Addr → Prop) (I : Addr) (items : List D) (St : Nat → Heap → Prop) : Prop where
  item : ∀ i d (s : Shared) (Q : Option Value → Shared → Prop) (E : Value → Shared → Prop), items[i]? = some d → St i s.heap →
    (∀ v h' tk, St (i + 1) h' → (∀ b o, b ≠ I → s.heap.get? b = some o → h'.get? b = some o) → Rep bx Y h' v d → Q (some v) { s with heap := h', toks := tk }) → wpAny (model prog w) A (pyNext (.ref I)) Q E s
  done : ∀ (s : Shared) (Q : Option Value → Shared → Prop) (E : Value → Shared → Prop), St items.length s.heap →
    (∀ h' tk, (∀ b o, b ≠ I → s.heap.get? b = some o → h'.get? b = some o) → Q none { s with heap := h', toks := tk }) → wpAny (model prog w) A (pyNext (.ref I)) Q E s
  self : ∀ i (s : Shared) (Q : Value → Shared → Prop) (E : Value → Shared → Prop), St i s.heap → Q (.ref I) s → wpAny (model prog w) A (pyIter (.ref I)) Q E s
  live : ∀ i h, St i h → ∃ o, h.get? I = some o ∧ (∀ xs n, o.data ≠ .seq xs n) ∧ ∀ v, o.data ≠ .cell v
  frame : ∀ i h h', St i h → (∀ b o, ¬ Y b ∨ b = I → h.get? b = some o → h'.get? b = some o) → St i h'

noncomputable def WithN (X : Addr → Prop) (h : Heap) : Addr → Prop := fun a => X a ∨ h.get? a = none

theorem RepL.withN {h h' : Heap} {vs : List Value} {ds : List D} (g : ∀ b o, h.get? b = some o → h'.get? b = some o) (r : RepL bx X h vs ds) : RepL bx (WithN X h) h' vs ds :=
  r.map (fun a o nx q => ⟨fun z => z.elim nx fun z => (by rw [z] at q; cases q), g a o q⟩) fun _ _ z => z

theorem iter_list (hh : A.handled = none) {Y : Addr → Prop} {I ax : Addr} {vs : List Value} {items : List D} (yI : Y I) (nx : ¬ Y ax) :
    IterAt prog w bx A Y I items (fun i h => (h.IsListIter I ax i ∧ h.IsList ax vs.toArray) ∧ RepL bx Y h vs items) where
  item := fun i d s Q E hd st hQ => by
    obtain ⟨v, hv, _⟩ := st.2.get hd
    have W := Walks.list (prog := prog) (w := w) hh I ax (fun z => nx (z ▸ yI)) vs.toArray
    have hlt : i < vs.toArray.size := by
      rw [List.size_toArray]
      rcases Nat.lt_or_ge i vs.length with q | q
      · exact q
      · rw [List.getElem?_eq_none q] at hv; cases hv
    refine W.item i s Q E hlt st.1 fun v' h' tk hP st' hk => ?_
    have e : v' = v := by
      have hP' : vs[i]? = some v' := by simpa using hP
      rw [hv] at hP'; exact (Option.some.inj hP').symm
    subst e
    have R : RepL bx Y h' vs items := st.2.map (fun a o n q => ⟨n, hk a o (by intro m; exact n ((List.mem_singleton.mp m) ▸ yI)) q⟩) fun _ _ z => z
    obtain ⟨v2, hv2, rv⟩ := R.get hd
    rw [hv] at hv2; cases hv2
    exact hQ _ h' tk ⟨st', R⟩ (fun b o hb q => hk b o (by simpa using hb) q) rv
  done := fun s Q E st hQ => by
    have W := Walks.list (prog := prog) (w := w) hh I ax (fun z => nx (z ▸ yI)) vs.toArray
    refine W.done s Q E (by rw [List.size_toArray, st.2.length]; exact st.1) fun h' tk hk => hQ h' tk fun b o hb q => hk b o (by simpa using hb) q
  self := fun i s Q E st hQ => (Walks.list (prog := prog) (w := w) hh I ax (fun z => nx (z ▸ yI)) vs.toArray).self i s Q E st.1 hQ
  live := fun i h st => by obtain ⟨o, e, _, hd⟩ := st.1.1; exact ⟨o, e, (by intro _ _ q; rw [hd] at q; cases q), (by intro _ q; rw [hd] at q; cases q)⟩
  frame := fun i h h' st g => by
    obtain ⟨⟨⟨o, e, r⟩, ⟨o', e', r'⟩⟩, R⟩ := st
    exact ⟨⟨⟨o, g _ _ (.inr rfl) e, r⟩, ⟨o', g _ _ (.inl nx) e', r'⟩⟩, R.map (fun a o n q => ⟨n, g a o (.inl n) q⟩) fun _ _ z => z⟩

theorem iter_tuple (hh : A.handled = none) {Y : Addr → Prop} {I ax : Addr} {vs : List Value} {items : List D} (yI : Y I) (nx : ¬ Y ax) :
    IterAt prog w bx A Y I items (fun i h => (h.IsTupleIter I ax i ∧ h.IsTuple ax vs.toArray) ∧ RepL bx Y h vs items) where
  item := fun i d s Q E hd st hQ => by
    obtain ⟨v, hv, _⟩ := st.2.get hd
    have W := Walks.tuple (prog := prog) (w := w) hh I ax (fun z => nx (z ▸ yI)) vs.toArray
    have hlt : i < vs.toArray.size := by
      rw [List.size_toArray]
      rcases Nat.lt_or_ge i vs.length with q | q
      · exact q
      · rw [List.getElem?_eq_none q] at hv; cases hv
    refine W.item i s Q E hlt st.1 fun v' h' tk hP st' hk => ?_
    have e : v' = v := by
      have hP' : vs[i]? = some v' := by simpa using hP
      rw [hv] at hP'; exact (Option.some.inj hP').symm
    subst e
    have R : RepL bx Y h' vs items := st.2.map (fun a o n q => ⟨n, hk a o (by intro m; exact n ((List.mem_singleton.mp m) ▸ yI)) q⟩) fun _ _ z => z
    obtain ⟨v2, hv2, rv⟩ := R.get hd
    rw [hv] at hv2; cases hv2
    exact hQ _ h' tk ⟨st', R⟩ (fun b o hb q => hk b o (by simpa using hb) q) rv
  done := fun s Q E st hQ => by
    have W := Walks.tuple (prog := prog) (w := w) hh I ax (fun z => nx (z ▸ yI)) vs.toArray
    refine W.done s Q E (by rw [List.size_toArray, st.2.length]; exact st.1) fun h' tk hk => hQ h' tk fun b o hb q => hk b o (by simpa using hb) q
  self := fun i s Q E st hQ => (Walks.tuple (prog := prog) (w := w) hh I ax (fun z => nx (z ▸ yI)) vs.toArray).self i s Q E st.1 hQ
  live := fun i h st => by obtain ⟨o, e, _, hd⟩ := st.1.1; exact ⟨o, e, (by intro _ _ q; rw [hd] at q; cases q), (by intro _ q; rw [hd] at q; cases q)⟩
  frame := fun i h h' st g => by
    obtain ⟨⟨⟨o, e, r⟩, ⟨o', e', r'⟩⟩, R⟩ := st
    exact ⟨⟨⟨o, g _ _ (.inr rfl) e, r⟩, ⟨o', g _ _ (.inl nx) e', r'⟩⟩, R.map (fun a o n q => ⟨n, g a o (.inl n) q⟩) fun _ _ z => z⟩

theorem intsFrom_get {a : Int} {n i : Nat} {d : D} (h : (intsFrom a n)[i]? = some d) : i < n ∧ d = .int (a + (i : Int)) := by
  unfold intsFrom at h
  rw [List.getElem?_map] at h
  rcases Nat.lt_or_ge i n with q | q
  · rw [List.getElem?_range q] at h
    simp at h
    exact ⟨q, h.symm⟩
  · rw [List.getElem?_eq_none (by simpa using q)] at h; cases h

theorem iter_range (hh : A.handled = none) {Y : Addr → Prop} {I : Addr} {a : Int} {n : Nat} :
    IterAt prog w bx A Y I (intsFrom a n) (fun i h => IsRangeIter h I (a + (i : Int) * 1) ((n : Int) - (i : Int)) 1) where
  item := fun i d s Q E hd st hQ => by
    obtain ⟨hlt, rfl⟩ := intsFrom_get hd
    have W := Walks.range (prog := prog) (w := w) hh I a 1 n
    refine W.item i s Q E hlt st fun v' h' tk hP st' hk => ?_
    obtain ⟨t, rfl⟩ := hP
    rw [Int.mul_one]
    exact hQ _ h' tk st' (fun b o hb q => hk b o (by simpa using hb) q) (.int _ _)
  done := fun s Q E st hQ => by
    have W := Walks.range (prog := prog) (w := w) hh I a 1 n
    have e : (intsFrom a n).length = n := by simp [intsFrom]
    rw [e] at st
    exact W.done s Q E st fun h' tk hk => hQ h' tk fun b o hb q => hk b o (by simpa using hb) q
  self := fun i s Q E st hQ => (Walks.range (prog := prog) (w := w) hh I a 1 n).self i s Q E st hQ
  live := fun i h st => ⟨_, st, (by intro _ _ q; cases q), (by intro _ q; cases q)⟩
  frame := fun i h h' st g => g _ _ (.inr rfl) st

/-- what stands behind `iter(..)` -/
noncomputable def IQ (prog : Program) (w : World) (bx : Bx) (A : Around) (FL : List Addr) (X : Addr → Prop) (s : Shared) (r : Rz D) : Value → Shared → Prop := fun it s' =>
  ∃ items k I St Y, r = .ok (.list items) k ∧ it = .ref I ∧ Step bx FL s s' k ∧ s.heap.get? I = none ∧ (∃ o, s'.heap.get? I = some o) ∧ ¬ X I ∧ IterAt prog w bx A Y I items St ∧ St 0 s'.heap ∧ items.length ≤ sizeLine ∧ (∀ a, X a → Y a) ∧ Y I ∧ ∀ a, s'.heap.get? a = none → Y a

theorem items_sound (c : Cx bx hb A FL nn X s k) {v : Value} {d : D} (r : Rep bx X s.heap v d) (hr : itemsD d k ≠ .stuck) :
    wpAny (model prog w) A (pyIter v) (IQ prog w bx A FL X s (itemsD d k)) E s := by
  unfold itemsD at hr ⊢
  revert hr
  split <;> intro hr
  · split at hr
    · rename_i hsz
      rw [if_pos hsz]
      cases r with
      | lst na ea ql =>
        rename_i l a vs n
        refine wpAny_pyIter_list ⟨_, ea, rfl, _, rfl⟩ ?_
        have g : ∀ b o, s.heap.get? b = some o → (s.heap.push { cls := .type "list_iterator", data := .fields #[.ref a, .int 0 0] }).get? b = some o := fun b o e => Heap.get?_push_of_some _ e
        exact ⟨_, k, s.heap.objs.size, _, WithN X s.heap, rfl, rfl, c.grow (tk := s.toks) g, get_none_size _, ⟨_, Heap.get?_push_size _ rfl⟩, c.fresh, iter_list c.act.hd (.inr (get_none_size _)) (fun z => z.elim na fun z => (by rw [ea] at z; cases z)),
          ⟨⟨⟨_, Heap.get?_push_size _ rfl, rfl, rfl⟩, ⟨_, g _ _ ea, rfl, _, rfl⟩⟩, ql.withN g⟩, hsz, fun a x => .inl x, .inr (get_none_size _), fun a q => .inr (by
            cases e : s.heap.get? a with
            | none => rfl
            | some o => have := g a o e; rw [q] at this; cases this)⟩
    · exact absurd rfl hr
  · split at hr
    · rename_i hsz
      rw [if_pos hsz]
      cases r with
      | tup na ea ca qa ql =>
        rename_i l a o vs n
        refine wpAny_pyIter_tuple ⟨_, ea, ca, _, qa⟩ ?_
        have g : ∀ b o, s.heap.get? b = some o → (s.heap.push { cls := .type "tuple_iterator", data := .fields #[.ref a, .int 0 0] }).get? b = some o := fun b o e => Heap.get?_push_of_some _ e
        exact ⟨_, k, s.heap.objs.size, _, WithN X s.heap, rfl, rfl, c.grow (tk := s.toks) g, get_none_size _, ⟨_, Heap.get?_push_size _ rfl⟩, c.fresh, iter_tuple c.act.hd (.inr (get_none_size _)) (fun z => z.elim na fun z => (by rw [ea] at z; cases z)),
          ⟨⟨⟨_, Heap.get?_push_size _ rfl, rfl, rfl⟩, ⟨_, g _ _ ea, ca, _, qa⟩⟩, ql.withN g⟩, hsz, fun a x => .inl x, .inr (get_none_size _), fun a q => .inr (by
            cases e : s.heap.get? a with
            | none => rfl
            | some o => have := g a o e; rw [q] at this; cases this)⟩
    · exact absurd rfl hr
  · exact absurd rfl hr

theorem range_sound (c : Cx bx hb A FL nn X s k) {vs : List Value} {ds : List D} (r : RepL bx X s.heap vs ds) (hr : rngD ds k ≠ .stuck) :
    wpAny (model prog w) A (call (.type "range") vs) (fun xv s₁ => wpAny (model prog w) A (pyIter xv) (IQ prog w bx A FL X s (rngD ds k)) E s₁) E s := by
  have h24 : sizeLine = 2 ^ 24 := by decide
  have fin : ∀ (a b : Int) (n : Nat) (h1 : Heap) (tk1 : Nat) (x y z : Tok), (∀ b o, s.heap.get? b = some o → h1.get? b = some o) → s.heap.objs.size < h1.objs.size →
      IsRange h1 s.heap.objs.size a b 1 x y z → -1048576 < a → a < 1048576 → -1048576 < b → b < 1048576 → n = (b - a).toNat →
      wpAny (model prog w) A (pyIter (.ref s.heap.objs.size)) (IQ prog w bx A FL X s (.ok (.list (intsFrom a n)) k)) E { s with heap := h1, toks := tk1 } := by
    intro a b n h1 tk1 x y z g hlt hr' h1a h1b h2a h2b hn
    have hsm : Builtin.Range.small a b 1 = true := small_one (by omega) (by omega) (by omega) (by omega)
    refine wpAny_pyIter_range (s := { s with heap := h1, toks := tk1 }) hr' hsm ?_
    have hs : Builtin.Range.rangeSize a b 1 = ((n : Nat) : Int) := by rw [rangeSize_one, hn]; split <;> omega
    have nI : ¬ X h1.objs.size := fun q => by
      obtain ⟨o, e⟩ := (c.wd.xok _ q).2
      exact absurd (Nat.lt_trans (Heap.lt_size e) hlt) (Nat.lt_irrefl _)
    have g2 : ∀ b' o, s.heap.get? b' = some o → (h1.push { cls := .type "range_iterator", data := .fields #[rawInt a, rawInt (Builtin.Range.rangeSize a b 1), rawInt 1] }).get? b' = some o := fun b' o e => Heap.get?_push_of_some _ (g b' o e)
    have hI : s.heap.get? h1.objs.size = none := by
      cases e : s.heap.get? h1.objs.size with
      | none => rfl
      | some o => exact absurd (Heap.lt_size (g _ _ e)) (Nat.lt_irrefl _)
    refine ⟨_, k, h1.objs.size, _, WithN X s.heap, rfl, rfl, c.grow (tk := tk1) g2, hI, ⟨_, Heap.get?_push_size _ rfl⟩, nI, iter_range c.act.hd, ?_, ?_, fun a x => .inl x, .inr hI, fun a q => .inr (by
            cases e : s.heap.get? a with
            | none => rfl
            | some o => have := g2 a o e; rw [q] at this; cases this)⟩
    · show (h1.push { cls := .type "range_iterator", data := .fields #[rawInt a, rawInt (Builtin.Range.rangeSize a b 1), rawInt 1] }).get? h1.objs.size = some _
      rw [hs, Heap.get?_push_size _ rfl]
      simp
    · simp only [intsFrom, List.length_map, List.length_range]; omega
  unfold rngD at hr ⊢
  revert hr
  split <;> intro hr
  · split at hr
    · rename_i b hb'
      rw [if_pos hb']
      cases r with
      | cons a r =>
        cases r
        cases a
        refine call_range_1 ?_
        exact fin 0 _ _ _ _ _ _ _ (fun b o e => Heap.get?_push_of_some _ e) (by rw [size_push]; exact Nat.lt_succ_self _) (Heap.get?_push_size _ rfl) (by omega) (by omega) hb'.1 hb'.2 (by simp)
    · exact absurd rfl hr
  · split at hr
    · rename_i a b hb'
      rw [if_pos hb']
      cases r with
      | cons qa r =>
        cases r with
        | cons qb r =>
          cases r
          cases qa
          cases qb
          refine call_range_2 ?_
          exact fin _ _ _ _ _ _ _ _ (fun b o e => Heap.get?_push_of_some _ e) (by rw [size_push]; exact Nat.lt_succ_self _) (Heap.get?_push_size _ rfl) hb'.1 hb'.2.1 hb'.2.2.1 hb'.2.2.2 rfl
    · exact absurd rfl hr
  · exact absurd rfl hr
end
end Mine

open PySem PySem.W PySem.Spec PySem.Calls PyProof.Rows
set_option Elab.async false
set_option maxRecDepth 100000
set_option linter.unusedVariables false
namespace Mine

/-- how an environment shows the small environment -/
structure Vw (bx : Bx) (FL : List Addr) (X : Addr → Prop) (ε : Env) (sc : Sc) (h : Heap) (ρ : Rho) : Prop where
  ek : ε.scope.kind = .function
  eg : ε.globals = mainGlobals
  eb : ε.builtins = builtinsNs
  fr : ∃ L ∈ FL, ε.frame = some L
  glo : ∀ x, sc.lookup x = some .globalImplicit → ε.kindOf x = some .globalImplicit
  cel : ∀ x, sc.lookup x = some .cell → ε.kindOf x = some .cell ∧ ∃ c, ε.cells.lookup x = some c
  vars : ∀ x d, vis sc x = true → ρ.lookup (tok x) = some (.val d) → ∃ v, Holds ε h x v ∧ Rep bx X h v d
  owns : ∀ x l, vis sc x = true → ρ.lookup (tok x) = some (.own l) → ∃ a vs n, Holds ε h x (.ref a) ∧ a ∉ FL ∧ (∀ xs, bx ≠ some (a, xs)) ∧ h.get? a = some { cls := .type "list", data := .seq vs.toArray n } ∧ RepL bx X h vs l

section
variable {prog : Program} {w : World} {bx : Bx} {hb : Heap} {C : Addr} {A : Around} {FL : List Addr} {nn : Nat} {X : Addr → Prop} {s : Shared} {k : Nat} {E : Value → Shared → Prop} {xc : Prop}

theorem Holds.ext {ε : Env} {h h' : Heap} {k : Nat} {x : Str} {v : Value} (hns : ∀ L ∈ FL, ∃ m, h.Ns L m) (hbox : BoxI bx h k) (e : Ext bx FL h h') (H : Holds ε h x v) : Holds ε h' x v := by
  rcases H with ⟨hk, m, hm, hv⟩ | ⟨hk, c, o, hc, ho, hd⟩
  · exact .inl ⟨hk, m, e.ns _ _ hm, hv⟩
  · refine .inr ⟨hk, c, o, hc, e.keep c o ho (fun m => ?_) (fun xs z => ?_), hd⟩
    · obtain ⟨_, o', es, ep, q, hd', _⟩ := hns c m
      rw [ho] at q; cases q
      rw [hd] at hd'; cases hd'
    · subst z
      obtain ⟨_, _, _, _, q, _⟩ := hbox
      rw [ho] at q; cases q
      cases hd

theorem Vw.extX {X' : Addr → Prop} {ε : Env} {sc : Sc} {h h' : Heap} {ρ : Rho} {k : Nat} (V : Vw bx FL X ε sc h ρ) (W : Wd bx hb X FL h k) (hns : ∀ L ∈ FL, ∃ m, h.Ns L m) (e : Ext bx FL h h') (hX : ∀ a, X' a → X a ∨ h.get? a = none) : Vw bx FL X' ε sc h' ρ where
  ek := V.ek
  eg := V.eg
  eb := V.eb
  fr := V.fr
  glo := V.glo
  cel := V.cel
  vars := fun x d hv q => by
    obtain ⟨v, H, r⟩ := V.vars x d hv q
    exact ⟨v, H.ext hns W.box e, r.map (fun a o nx g => ⟨fun z => (hX a z).elim nx fun z => (by rw [g] at z; cases z), e.keep a o g (fun m => nx (W.flb a m)) fun xs z => nx (W.bxx _ _ z)⟩) fun _ _ z => z⟩
  owns := fun x l hv q => by
    obtain ⟨a, vs, n, H, nf, nb, g, r⟩ := V.owns x l hv q
    exact ⟨a, vs, n, H.ext hns W.box e, nf, nb, e.keep a _ g nf nb, r.map (fun a o nx g => ⟨fun z => (hX a z).elim nx fun z => (by rw [g] at z; cases z), e.keep a o g (fun m => nx (W.flb a m)) fun xs z => nx (W.bxx _ _ z)⟩) fun _ _ z => z⟩

theorem Vw.step {ε : Env} {sc : Sc} {ρ : Rho} {s s' : Shared} {k k' : Nat} (V : Vw bx FL X ε sc s.heap ρ) (c : Cx bx hb A FL nn X s k) (st : Step bx FL s s' k') : Vw bx FL X ε sc s'.heap ρ :=
  V.extX c.wd c.act.ns st.ext fun a x => .inl x

/-- the cells that a comprehension takes along -/
noncomputable def clOf (ε : Env) : List (Str × NameKind) → List (Str × Addr) → List (Str × Addr)
  | [], acc => acc
  | (n, kd) :: r, acc => if kd == .free then clOf ε r ((n, (ε.cells.lookup n).getD 0) :: acc) else clOf ε r acc

theorem closure_loop (ε : Env) : ∀ (l : List (Str × NameKind)) (acc : List (Str × Addr)), (∀ p ∈ l, p.2 = .free → ∃ c, ε.cells.lookup p.1 = some c) →
    (forIn l acc (fun (p : Str × NameKind) (cs : List (Str × Addr)) => (if (p.2 == .free) = true then do let a ← cellOf ε p.1; pure (ForInStep.yield ((p.1, a) :: cs)) else pure (ForInStep.yield cs) : Sem (ForInStep (List (Str × Addr)))))) = pure (clOf ε l acc)
  | [], acc, _ => rfl
  | (n, kd) :: r, acc, h => by
    rw [List.forIn_cons]
    have hr := closure_loop ε r
    unfold clOf
    by_cases hk : (kd == .free) = true
    · obtain ⟨c, hc⟩ := h (n, kd) List.mem_cons_self (by simpa using hk)
      have e : cellOf ε n = pure c := by unfold cellOf; simp only at hc; rw [hc]
      simp only [hk, if_true, e, hc, Option.getD_some, pure_bind]
      exact hr _ fun p hp => h p (List.mem_cons_of_mem _ hp)
    · simp only [hk, pure_bind]
      exact hr _ fun p hp => h p (List.mem_cons_of_mem _ hp)

theorem closureFor_eq {ε : Env} {scope : Scope} (h : ∀ p ∈ scope.names, p.2 = .free → ∃ c, ε.cells.lookup p.1 = some c) : closureFor scope ε = pure (clOf ε scope.names []) := by
  have := closure_loop ε scope.names [] h
  unfold closureFor
  simp only [bind_pure]
  rw [← this]

theorem clOf_lookup {ε : Env} {y : Str} : ∀ (l : List (Str × NameKind)) (acc : List (Str × Addr)), (∀ p ∈ l, p.2 = .free → ∃ c, ε.cells.lookup p.1 = some c) → (∀ c, acc.lookup y = some c → ε.cells.lookup y = some c) →
    ((y, NameKind.free) ∈ l ∨ (acc.lookup y).isSome = true) → (clOf ε l acc).lookup y = ε.cells.lookup y
  | [], acc, _, ha, h => by
    rcases h with h | h
    · exact nomatch h
    · obtain ⟨c, hc⟩ := Option.isSome_iff_exists.mp h
      show acc.lookup y = _
      rw [hc, ha c hc]
  | (n, kd) :: r, acc, hl, ha, h => by
    unfold clOf
    have hl' : ∀ p ∈ r, p.2 = .free → ∃ c, ε.cells.lookup p.1 = some c := fun p hp => hl p (List.mem_cons_of_mem _ hp)
    by_cases hk : (kd == .free) = true
    · rw [if_pos hk]
      obtain ⟨c, hc⟩ := hl (n, kd) List.mem_cons_self (by simpa using hk)
      simp only at hc
      refine clOf_lookup r _ hl' (fun c' hc' => ?_) ?_
      · rw [List.lookup_cons] at hc'
        split at hc'
        · rename_i e
          have e' : y = n := by simpa using e
          rw [hc] at hc'
          simp at hc'
          rw [e', hc, hc']
        · exact ha c' hc'
      · rcases h with h | h
        · rcases List.mem_cons.mp h with h | h
          · cases h
            exact .inr (by rw [List.lookup_cons]; simp)
          · exact .inl h
        · refine .inr ?_
          rw [List.lookup_cons]
          split
          · rfl
          · exact h
    · rw [if_neg hk]
      refine clOf_lookup r acc hl' ha (h.imp (fun h => ?_) id)
      rcases List.mem_cons.mp h with h | h
      · cases h; exact absurd rfl hk
      · exact h

theorem lookup_rl {f : Str → NameKind → Bool} {y : Str} : ∀ (l : List (Str × NameKind)), (l.map fun (n, k) => if f n k then (n, NameKind.cell) else (n, k)).lookup y = (l.lookup y).map fun k => if f y k then .cell else k
  | [] => rfl
  | (n, kd) :: r => by
    have e : (((n, kd) :: r).map fun (n, k) => if f n k then (n, NameKind.cell) else (n, k)) = (n, if f n kd then NameKind.cell else kd) :: (r.map fun (n, k) => if f n k then (n, NameKind.cell) else (n, k)) := by
      rw [List.map_cons]
      congr 1
      show (if f n kd = true then (n, NameKind.cell) else (n, kd)) = _
      split <;> rfl
    rw [e, List.lookup_cons, List.lookup_cons, lookup_rl r]
    by_cases h : (y == n) = true
    · have : y = n := by simpa using h
      subst this
      simp
    · simp [h]

theorem mem_of_lookup {α : Type} {y : Str} {v : α} : ∀ {l : List (Str × α)}, l.lookup y = some v → (y, v) ∈ l
  | (n, kd) :: r, h => by
    rw [List.lookup_cons] at h
    split at h
    · rename_i e
      have : y = n := by simpa using e
      subst this
      cases h
      exact List.mem_cons_self
    · exact List.mem_cons_of_mem _ (mem_of_lookup h)

structure CompOk (sc : Sc) (scope : Scope) (x : Str) : Prop where
  kind : scope.kind = .function
  x0 : x ≠ ".0"
  xd : x ≠ "__debug__"
  xl : scope.names.lookup x = some .local
  names : ∀ p ∈ scope.names, (p.2 = .local ∧ scope.names.lookup p.1 = some .local ∧ (p.1 = x ∨ p.1 = ".0")) ∨ (p.2 = .free ∧ sc.lookup p.1 = some .cell ∧ scope.names.lookup p.1 = some .free) ∨ p.2 = .globalImplicit

theorem CompOk.of {sc : Sc} {scope : Scope} {x : Str} (h : compOk sc scope x = true) : CompOk sc scope x := by
  unfold compOk at h
  simp only [Bool.and_eq_true, bne_iff_ne, ne_eq, beq_iff_eq, List.all_eq_true] at h
  obtain ⟨⟨⟨⟨h1, h2⟩, h3⟩, h4⟩, h5⟩ := h
  refine ⟨h1, h2, h3, h4, fun p hp => ?_⟩
  have := h5 p hp
  split at this
  · rename_i e
    simp only [Bool.and_eq_true, Bool.or_eq_true, beq_iff_eq] at this
    exact .inl ⟨e, this.1, this.2⟩
  · rename_i e
    simp only [Bool.and_eq_true, beq_iff_eq] at this
    exact .inr (.inl ⟨e, this.1, this.2⟩)
  · rename_i e
    exact .inr (.inr e)
  · cases this

theorem Vw.inner {ε : Env} {sc : Sc} {scope : Scope} {x : Str} {h : Heap} {ρ : Rho} {L : Addr} {m : Str → Option Value} {v : Value} {d : D} (V : Vw bx FL X ε sc h ρ) (O : CompOk sc scope x)
    (hL : h.Ns L m) (hm : m x = some v) (r : Rep bx X h v d) : Vw bx FL X (compEnvC scope (clOf ε scope.names []) L ε) scope.names h ((tok x, .val d) :: ρ) := by
  have hfree : ∀ p ∈ scope.names, p.2 = .free → ∃ c, ε.cells.lookup p.1 = some c := fun p hp hf => by
    rcases O.names p hp with q | q | q
    · rw [hf] at q; exact absurd q.1 (by decide)
    · exact (V.cel _ q.2.1).2
    · rw [hf] at q; exact absurd q (by decide)
  have kin : ∀ y, (compEnvC scope (clOf ε scope.names []) L ε).kindOf y = (scope.names.lookup y).map fun k => if (k == .free && ε.scope.kind == .function && ε.kindOf y == some .cell) then .cell else k := fun y => by
    show (relabel scope ε).names.lookup y = _
    unfold relabel
    exact lookup_rl (f := fun n k => k == .free && ε.scope.kind == .function && ε.kindOf n == some .cell) scope.names
  have inner : ∀ y, y ≠ x → vis scope.names y = true → vis sc y = true ∧ scope.names.lookup y = some .free ∧ sc.lookup y = some .cell := fun y hy hv => by
    unfold vis at hv
    simp only [Bool.and_eq_true, bne_iff_ne, ne_eq] at hv
    obtain ⟨⟨h1, h2⟩, h3⟩ := hv
    cases q : scope.names.lookup y with
    | none => rw [q] at h3; cases h3
    | some kd =>
      rcases O.names _ (mem_of_lookup q) with z | z | z
      · rcases z.2.2 with z | z
        · exact absurd z hy
        · exact absurd z h1
      · refine ⟨?_, z.2.2.symm ▸ (by rw [← q, z.2.2]), z.2.1⟩
        unfold vis
        simp only [Bool.and_eq_true, bne_iff_ne, ne_eq]
        exact ⟨⟨h1, h2⟩, by rw [z.2.1]; rfl⟩
      · simp only at z
        rw [q, z] at h3; cases h3
  have holds : ∀ y u, scope.names.lookup y = some .free → sc.lookup y = some .cell → Holds ε h y u → Holds (compEnvC scope (clOf ε scope.names []) L ε) h y u := fun y u hf hc H => by
    have hk := (V.cel y hc).1
    rcases H with ⟨q, _⟩ | ⟨_, c, o, hcl, ho, hd⟩
    · rw [hk] at q; cases q
    · refine .inr ⟨?_, c, o, ?_, ho, hd⟩
      · rw [kin y, hf, V.ek, hk]; rfl
      · show (clOf ε scope.names []).lookup y = some c
        rw [clOf_lookup _ _ hfree (fun c hc => by cases hc) (.inl (mem_of_lookup hf)), hcl]
  refine ⟨O.kind, V.eg, V.eb, V.fr, fun y hy => ?_, fun y hy => ?_, fun y d' hv q => ?_, fun y l hv q => ?_⟩
  · rw [kin y, hy]; rfl
  · exfalso
    rcases O.names _ (mem_of_lookup hy) with z | z | z
    · exact absurd z.1 (by intro z; cases z)
    · exact absurd z.1 (by intro z; cases z)
    · exact absurd z (by intro z; cases z)
  · rw [List.lookup_cons, tok_beq] at q
    split at q
    · rename_i e
      have e' : y = x := by simpa using e
      subst e'
      cases q
      refine ⟨v, .inl ⟨?_, m, hL, hm⟩, r⟩
      rw [kin y, O.xl]; rfl
    · rename_i e
      have e' : y ≠ x := by simpa using e
      obtain ⟨h1, h2, h3⟩ := inner y e' hv
      obtain ⟨u, H, ru⟩ := V.vars y d' h1 q
      exact ⟨u, holds y u h2 h3 H, ru⟩
  · rw [List.lookup_cons, tok_beq] at q
    split at q
    · cases q
    · rename_i e
      have e' : y ≠ x := by simpa using e
      obtain ⟨h1, h2, h3⟩ := inner y e' hv
      obtain ⟨a, vs, n, H, r⟩ := V.owns y l h1 q
      exact ⟨a, vs, n, holds y _ h2 h3 H, r⟩
end
end Mine

open PySem PySem.W PySem.Spec PySem.Calls PyProof.Rows
set_option Elab.async false
set_option maxRecDepth 100000
set_option linter.unusedVariables false
namespace Mine

section
variable {prog : Program} {w : World} {bx : Bx} {hb : Heap} {C : Addr} {A : Around} {FL : List Addr} {nn : Nat} {X : Addr → Prop} {s : Shared} {k : Nat} {E : Value → Shared → Prop} {xc : Prop}

/-- what was made since may turn -/
theorem Step.fresh {sr s' : Shared} {k₀ k' : Nat} (c : Cx bx hb A FL nn X sr k₀) (st : Step bx FL sr s' k') {h'' : Heap} {tk : Nat}
    (g : ∀ b o, (∃ o, sr.heap.get? b = some o) → s'.heap.get? b = some o → h''.get? b = some o) : Step bx FL sr { s' with heap := h'', toks := tk } k' := by
  obtain ⟨h', t, rfl, e, B⟩ := st
  refine ⟨h'', tk, rfl, ⟨fun b o q nf nb => g b o ⟨o, q⟩ (e.keep b o q nf nb), fun b m q => ?_⟩, ?_⟩
  · obtain ⟨o, es, ep, q', r⟩ := e.ns b m q
    obtain ⟨o₀, _, _, q₀, _⟩ := q
    exact ⟨o, es, ep, g b o ⟨o₀, q₀⟩ q', r⟩
  · have B₀ := c.wd.box
    cases bx with
    | none => trivial
    | some p =>
      obtain ⟨b, l, xs⟩ := p
      obtain ⟨n, vl, nl, tk, h1, h2, h3, h4⟩ := B
      obtain ⟨n', vl', nl', tk', g1, g2, _⟩ := B₀
      exact ⟨n, vl, nl, tk, g b _ ⟨_, g1⟩ h1, g l _ ⟨_, g2⟩ h2, h3, h4⟩

theorem Step.live {sr s' : Shared} {k₀ k' : Nat} (c : Cx bx hb A FL nn X sr k₀) (st : Step bx FL sr s' k') {b : Addr} (h : ∃ o, sr.heap.get? b = some o) : ∃ o, s'.heap.get? b = some o := by
  cases q : s'.heap.get? b with
  | some o => exact ⟨o, rfl⟩
  | none =>
    obtain ⟨o, e⟩ := h
    rw [st.old c q] at e; cases e

/-- more is left out -/
theorem Cx.more {sr s' : Shared} {k₀ k' : Nat} (c : Cx bx hb A FL nn X sr k₀) (st : Step bx FL sr s' k') {X' : Addr → Prop} (h1 : ∀ a, X a → X' a) (h2 : ∀ a, X' a → X a ∨ (sr.heap.get? a = none ∧ ∃ o, s'.heap.get? a = some o)) : Cx bx hb A FL nn X' s' k' := by
  have c' := c.step st
  refine ⟨c'.act, ⟨c'.wd.base, fun b m => h1 _ (c'.wd.flb b m), fun a x => ?_, c'.wd.box, fun b xs z => h1 _ (c'.wd.bxx b xs z)⟩, c'.fl⟩
  rcases h2 a x with x | ⟨x, o⟩
  · exact c'.wd.xok a x
  · refine ⟨?_, o⟩
    cases q : hb.get? a with
    | none => rfl
    | some o => rw [c.wd.base a o q] at x; cases x

theorem evM_nil {f : D → Nat → Rz D} {k : Nat} : evM f [] k = .ok [] k := rfl
theorem evM_cons {f : D → Nat → Rz D} {d : D} {r : List D} {k : Nat} : evM f (d :: r) k = (f d k).bind fun y k => (evM f r k).bind fun ys k => .ok (y :: ys) k := rfl

theorem comp_block {elt iter : PySem.Expr} {x : Str} {px : Pos} {scope : Scope} {pos : Pos} {ε : Env} {sc : Sc} {ρ : Rho} {sr s₂ : Shared} {k₀ k₂ : Nat} {I : Addr} {items : List D} {St : Nat → Heap → Prop} {Y : Addr → Prop} {F : Rho → Nat → Rz D}
    {RR : Value → Addr → Result → Shared → Prop}
    (c : Cx bx hb A FL nn X sr k₀) (st : Step bx FL sr s₂ k₂) (V : Vw bx FL X ε sc sr.heap ρ) (O : CompOk sc scope x)
    (hI : sr.heap.get? I = none) (lI : ∃ o, s₂.heap.get? I = some o) (nI : ¬ X I) (IA : IterAt prog w bx A Y I items St) (hst : St 0 s₂.heap) (hsz : items.length ≤ sizeLine) (hXY : ∀ a, X a → Y a) (hYI : Y I) (hNY : ∀ a, s₂.heap.get? a = none → Y a)
    (IH : ∀ (X' : Addr → Prop) (ε' : Env) (ρ' : Rho) (s' : Shared) (k' : Nat), Cx bx hb A FL nn X' s' k' → Vw bx FL X' ε' scope.names s'.heap ρ' → (F ρ' k').good xc →
      wpAny (model prog w) A (eval elt ε') (PQ bx FL X' s' (F ρ' k')) (PE C bx FL s' (F ρ' k')) s')
    (hg : (evM (fun d k => F ((tok x, .val d) :: ρ) k) items k₂).good xc)
    (hok : ∀ D C' h tk m' vs ys n k', evM (fun d k => F ((tok x, .val d) :: ρ) k) items k₂ = .ok ys k' → Step bx FL sr { s₂ with heap := h, toks := tk } k' → h.get? D = some { cls := .type "list", data := .seq (List.toArray vs) n } → RepL bx (fun a => X a ∨ a = D ∨ a = C') h vs ys →
      h.Ns C' m' → sr.heap.get? C' = none → sr.heap.get? D = none → C' ≠ D → ¬ X D → RR (.ref D) C' (.ok .next) { s₂ with heap := h, toks := tk })
    (hexc : ∀ D C' s' e kd k', evM (fun d k => F ((tok x, .val d) :: ρ) k) items k₂ = .exc kd k' → Step bx FL sr s' k' → ExcAt C false sr.heap s'.heap e kd → (∃ m, s'.heap.Ns C' m) → sr.heap.get? C' = none → (∃ hx : Heap, (∃ m, hx.Ns C' m) ∧ ExcAt C false hx s'.heap e kd ∧ (∀ b, hx.get? b = none → sr.heap.get? b = none) ∧ ∀ b, s'.heap.get? b = none → hx.get? b = none) →
      notedBy (model prog w) A (compEnvC scope (clOf ε scope.names []) C' ε) (fun e s'' => RR (.ref D) C' (.error e) s'') (.ref e) s') :
    wpAny (model prog w) A (newList []) (fun acc s₃ => wpAny (model prog w) A (newFunctionEnv scope ε.globals (clOf ε scope.names []) [] ε.qual none .none (some ε)) (fun cenv s₄ =>
      codeAny (model prog w) A (.compStart (.ListComp elt [⟨.Name x px, iter, [], 0⟩] scope pos) 0 (.ref I) acc { cenv with scope := relabel scope ε }) (RR acc cenv.locals) s₄) E s₃) E s₂ := by
  have hcell : ∀ y ∈ scope.names, y.2 ≠ .cell := fun y hy z => by
    rcases O.names y hy with q | q | q
    · rw [z] at q; exact absurd q.1 (by intro q; cases q)
    · rw [z] at q; exact absurd q.1 (by intro q; cases q)
    · rw [z] at q; cases q
  refine wpAny_newObj_type (wpAny_newFunctionEnv hcell (by intro y hy; simp at hy) (fun h₁ hns₁ hsb₁ => ?_) O.kind)
  dsimp only at hns₁ hsb₁ ⊢
  generalize hH2 : s₂.heap.push { cls := .type "list", dict := none, data := .seq ([] : List Value).toArray } = H2 at hns₁ hsb₁ ⊢
  have hC : H2.objs.size = s₂.heap.objs.size + 1 := by rw [← hH2, Heap.size_push]
  have hDC : s₂.heap.objs.size ≠ H2.objs.size := by rw [hC]; exact Nat.ne_of_lt (Nat.lt_succ_self _)
  have below : ∀ b, b < s₂.heap.objs.size → b ≠ H2.objs.size ∧ b ≠ s₂.heap.objs.size := fun b hb => ⟨by rw [hC]; exact Nat.ne_of_lt (Nat.lt_succ_of_lt hb), Nat.ne_of_lt hb⟩
  have old : ∀ b o, s₂.heap.get? b = some o → h₁.get? b = some o := fun b o e => hsb₁.extBut b o (below b (Heap.lt_size e)).1 (Heap.get?_push_of_some _ (hH2 ▸ Heap.get?_push_of_some _ e))
  have hacc : h₁.get? s₂.heap.objs.size = some { cls := .type "list", data := .seq ([] : List Value).toArray 0 } := hsb₁.extBut _ _ hDC (Heap.get?_push_of_some _ (hH2 ▸ Heap.get?_push_size _ rfl))
  have fresh : ∀ a, s₂.heap.objs.size ≤ a → s₂.heap.get? a = none := fun a ha => by
    cases e : s₂.heap.get? a with
    | none => rfl
    | some o' => exact absurd (Heap.lt_size e) (Nat.not_lt.mpr ha)
  have hD₂ := fresh _ (Nat.le_refl _)
  have hC₂ : s₂.heap.get? H2.objs.size = none := fresh _ (by rw [hC]; exact Nat.le_succ _)
  have hD₀ : sr.heap.get? s₂.heap.objs.size = none := st.old c hD₂
  have hC₀ : sr.heap.get? H2.objs.size = none := st.old c hC₂
  have hIlt : I < s₂.heap.objs.size := by obtain ⟨o, e⟩ := lI; exact Heap.lt_size e
  have hCI : I ≠ H2.objs.size := (below I hIlt).1
  have hDI : I ≠ s₂.heap.objs.size := (below I hIlt).2
  have hYC : Y H2.objs.size := hNY _ hC₂
  have hYD : Y s₂.heap.objs.size := hNY _ hD₂
  have nXC : ¬ X H2.objs.size := fun q => by
    obtain ⟨o, e⟩ := (c.wd.xok _ q).2
    rw [hC₀] at e; cases e
  have nXD : ¬ X s₂.heap.objs.size := fun q => by
    obtain ⟨o, e⟩ := (c.wd.xok _ q).2
    rw [hD₀] at e; cases e
  generalize hDD : s₂.heap.objs.size = DD at hns₁ hsb₁ hacc hDC hD₀ hDI hYD nXD hD₂ ⊢
  generalize hCC : H2.objs.size = CC at hns₁ hsb₁ hDC hC₀ hCI hYC nXC hC₂ ⊢
  let X' : Addr → Prop := fun a => X a ∨ a = CC ∨ a = DD ∨ a = I
  have srl : ∀ b, (∃ o, sr.heap.get? b = some o) → b ≠ I ∧ b ≠ CC ∧ b ≠ DD := fun b ⟨o, e⟩ => ⟨fun z => (by rw [z, hI] at e; cases e), fun z => (by rw [z, hC₀] at e; cases e), fun z => (by rw [z, hD₀] at e; cases e)⟩
  have loop : ∀ s₃ : Shared, s₃ = { s₂ with heap := h₁, toks := s₂.toks + ([] : List (Str × Value)).length } →
      codeAny (model prog w) A (.compLoop (.ListComp elt [⟨.Name x px, iter, [], 0⟩] scope pos) 0 (.ref I) (.ref DD) (compEnvC scope (clOf ε scope.names []) CC ε)) (RR (.ref DD) CC) s₃ := by
    rintro s₃ rfl
    refine codeAny_compLoop_tests
      (fun n s' => ∃ h' tk i vs ys m' kk, s' = { s₂ with heap := h', toks := tk } ∧ i ≤ items.length ∧ n = items.length + 1 - i ∧ List.length vs = i ∧ St i h' ∧ Step bx FL sr { s₂ with heap := h', toks := tk } kk ∧ h'.Ns CC m' ∧
        h'.get? DD = some { cls := .type "list", data := .seq (List.toArray vs) i } ∧ RepL bx X' h' vs ys ∧
        evM (fun d k => F ((tok x, .val d) :: ρ) k) items k₂ = (evM (fun d k => F ((tok x, .val d) :: ρ) k) (items.drop i) kk).bind fun zs k => .ok (ys ++ zs) k) ?_ (items.length + 1)
      ⟨h₁, _, 0, [], [], _, k₂, rfl, Nat.zero_le _, rfl, rfl, ?_, ?_, hns₁, hacc, .nil, ?_⟩
    · rintro n s' ⟨h', tk, i, vs, ys, m', kk, rfl, hi, rfl, hvl, hst', st', hn', hD', hR, hE⟩
      by_cases hlt : i < items.length
      · have hd : items[i]? = some items[i] := List.getElem?_eq_getElem hlt
        generalize hdd : items[i] = d at hd
        refine IA.item i d _ _ _ hd hst' fun v h₂ tk₂ hst₂ hk₂ rv => ?_
        have hloc : (compEnvC scope (clOf ε scope.names []) CC ε).kindOf x = some .local := lookup_relabel_local O.xl
        refine wpAny_assign_Name (wpAny_storeName_local hloc (hn'.at' fun o e => hk₂ _ o (Ne.symm hCI) e) (fun h₃ hn₃ hs₃ => ?_) (by simp [compEnvC, relabel, O.kind]))
        refine wpAny_tests_nil ?_
        simp only [if_true]
        -- the turn's state
        have k3 : ∀ b o, b ≠ I → b ≠ CC → h'.get? b = some o → h₃.get? b = some o := fun b o n1 n2 e => hs₃.extBut b o n2 (hk₂ b o n1 e)
        have st₃ : Step bx FL sr { s₂ with heap := h₃, toks := tk₂ + 1 } kk := Step.fresh c st' fun b o l e => k3 b o (srl b l).1 (srl b l).2.1 e
        have hst₃ : St (i + 1) h₃ := IA.frame _ _ _ hst₂ fun b o q e => hs₃.extBut b o (fun z => by
          rcases q with q | q
          · exact q (z ▸ hYC)
          · exact hCI (q.symm.trans z)) e
        have lI₃ : ∃ o, h₃.get? I = some o := by obtain ⟨o, q, _⟩ := IA.live _ _ hst₃; exact ⟨o, q⟩
        have hD₃ : h₃.get? DD = some { cls := .type "list", data := .seq vs.toArray i } := k3 _ _ (Ne.symm hDI) hDC hD'
        have c₃ : Cx bx hb A FL nn X' { s₂ with heap := h₃, toks := tk₂ + 1 } kk := c.more st₃ (fun a q => .inl q) fun a q => by
          rcases q with q | q | q | q
          · exact .inl q
          · subst q
            obtain ⟨o, _, _, e, _⟩ := hn₃
            exact .inr ⟨hC₀, o, e⟩
          · subst q; exact .inr ⟨hD₀, _, hD₃⟩
          · subst q; exact .inr ⟨hI, lI₃⟩
        have V₃ : Vw bx FL X' ε sc h₃ ρ := V.extX c.wd c.act.ns st₃.ext fun a q => by
          rcases q with q | q | q | q
          · exact .inl q
          · subst q; exact .inr hC₀
          · subst q; exact .inr hD₀
          · subst q; exact .inr hI
        have rv₃ : Rep bx X' h₃ v d := rv.map (fun a o q e => ⟨fun z => by
          rcases z with z | z | z | z
          · exact q (hXY _ z)
          · exact q (z ▸ hYC)
          · exact q (z ▸ hYD)
          · exact q (z ▸ hYI), hs₃.extBut a o (fun z => q (z ▸ hYC)) e⟩) fun _ _ z => z
        have R₃ : RepL bx X' h₃ vs ys := hR.map (fun a o q e => ⟨q, k3 a o (fun z => q (.inr (.inr (.inr z)))) (fun z => q (.inr (.inl z))) e⟩) fun _ _ z => z
        have hdrop : items.drop i = d :: items.drop (i + 1) := by rw [← hdd]; exact List.drop_eq_getElem_cons hlt
        rw [hdrop, evM_cons] at hE
        rw [hE] at hg
        have hg1 := Rz.good_bind (Rz.good_bind hg)
        refine wpAny_mono (IH X' _ ((tok x, .val d) :: ρ) _ kk c₃ (V₃.inner O hn₃ (by simp) rv₃) hg1) (fun y s₄ h₄ => ?_) (fun e s₄ h₄ => ?_)
        · obtain ⟨yd, k₄, ey, st₄, ry⟩ := h₄
          obtain ⟨h₄, tk₄, rfl, e₄, b₄⟩ := st₄
          have nfD : DD ∉ FL := fun m => nXD (c.wd.flb _ m)
          have nfI : I ∉ FL := fun m => nI (c.wd.flb _ m)
          have nbD : ∀ xs, bx ≠ some (DD, xs) := fun xs z => nXD (c.wd.bxx _ _ z)
          have nbI : ∀ xs, bx ≠ some (I, xs) := fun xs z => nI (c.wd.bxx _ _ z)
          have hD₄ := e₄.keep _ _ hD₃ nfD nbD
          refine append_at (hsz := by rw [List.size_toArray, hvl]; exact Nat.le_trans hi hsz) hD₄ fun h₅ hs₅ hD₅ => ?_
          have hn₄ := e₄.ns _ _ hn₃
          have st₄ : Step bx FL sr { s₂ with heap := h₄, toks := tk₄ } k₄ := st₃.trans ⟨h₄, tk₄, rfl, e₄, b₄⟩
          refine ⟨items.length + 1 - (i + 1), by omega, h₅, tk₄, i + 1, vs ++ [y], ys ++ [yd], _, k₄, rfl, hlt, rfl, by rw [List.length_append, List.length_singleton, hvl], ?_, Step.fresh c st₄ fun b o l e => hs₅.extBut b o (srl b l).2.2 e,
            hn₄.sameBut hs₅ (Ne.symm hDC), ?_, ?_, ?_⟩
          · refine IA.frame _ _ _ hst₃ fun b o q e => hs₅.extBut b o (fun z => ?_) (e₄.keep b o e (fun m => ?_) fun xs z => ?_)
            · rcases q with q | q
              · exact q (z ▸ hYD)
              · exact hDI (q.symm.trans z)
            · rcases q with q | q
              · exact q (hXY _ (c.wd.flb _ m))
              · exact nfI (q ▸ m)
            · rcases q with q | q
              · exact q (hXY _ (c.wd.bxx _ _ z))
              · exact nbI _ (q ▸ z)
          · rw [hD₅, List.push_toArray]
          · exact ((R₃.ext c₃.wd e₄).append (.cons ry .nil)).map (fun a o q e => ⟨q, hs₅.extBut a o (fun z => q (.inr (.inr (.inl z)))) e⟩) fun _ _ z => z
          · rw [hE, ey]
            show ((evM _ (items.drop (i + 1)) k₄).bind _).bind _ = _
            cases evM (fun d k => F ((tok x, .val d) :: ρ) k) (items.drop (i + 1)) k₄ with
            | ok zs k => show Rz.ok _ _ = Rz.ok _ _; rw [List.append_assoc]; rfl
            | exc kd k => rfl
            | stuck => rfl
        · obtain ⟨kd, k₄, a, e1, rfl, st₄, xx⟩ := h₄
          obtain ⟨m₃, hm₃⟩ : ∃ m, h₃.Ns CC m := ⟨_, hn₃⟩
          exact hexc DD CC s₄ a kd k₄ (by rw [hE, e1]; rfl) (st₃.trans st₄) (xx.lift fun b q => st₃.old c q) ⟨m₃, st₄.ext.ns _ _ hm₃⟩ hC₀ ⟨_, ⟨m₃, hm₃⟩, xx, fun b q => st₃.old c q, fun b q => st₄.old c₃ q⟩
      · obtain rfl : i = items.length := Nat.le_antisymm hi (Nat.not_lt.mp hlt)
        refine IA.done _ _ _ hst' fun h₂ tk₂ hk₂ => ?_
        rw [List.drop_length, evM_nil] at hE
        have st₂ : Step bx FL sr { s₂ with heap := h₂, toks := tk₂ } kk := Step.fresh c st' fun b o l e => hk₂ b o (srl b l).1 e
        refine hok DD CC h₂ tk₂ m' vs ys _ kk (by rw [hE]; show Rz.ok _ _ = _; rw [List.append_nil]) st₂ (hk₂ _ _ (Ne.symm hDI) hD') ?_ (hn'.at' fun o e => hk₂ _ o (Ne.symm hCI) e) hC₀ hD₀ (Ne.symm hDC) nXD
        exact hR.map (fun a o q e => ⟨fun z => z.elim (fun z => q (.inl z)) fun z => z.elim (fun z => q (.inr (.inr (.inl z)))) fun z => q (.inr (.inl z)), hk₂ a o (fun z => q (.inr (.inr (.inr z)))) e⟩) fun _ _ z => z
    · exact IA.frame _ _ _ hst fun b o _ e => old b o e
    · exact Step.fresh c st fun b o _ e => old b o e
    · rw [List.drop_zero]
      cases evM (fun d k => F ((tok x, .val d) :: ρ) k) items k₂ with
      | ok zs k => rfl
      | exc kd k => rfl
      | stuck => rfl
  have hst₁ : St 0 h₁ := IA.frame _ _ _ hst fun b o _ e => old b o e
  subst hDD
  subst hCC
  exact codeAny_compStart_list (loop _ rfl) (IA.self 0 _ _ _ hst₁ (loop _ rfl))
end
end Mine

open PySem PySem.W PySem.Spec PySem.Calls PyProof.Rows
set_option Elab.async false
set_option maxRecDepth 100000
set_option linter.unusedVariables false
namespace Mine

/-- the contract of a def: run with room for nn frames more, it gives what φ gives -/
noncomputable def Con (prog : Program) (w : World) (hb : Heap) (C : Addr) (bx : Bx) (xc : Prop) (nn : Nat) (f : Addr) (φ : Nat → List D → Rz D) : Prop :=
  ∀ (A : Around) (FL : List Addr) (X : Addr → Prop) (s : Shared) (vs : List Value) (ds : List D) (k : Nat),
    Act A FL nn s.heap → Wd bx hb X FL s.heap k → (∃ L ∈ FL, hb.objs.size ≤ L) → RepL bx X s.heap vs ds → (φ k ds).good xc →
    wpAny (model prog w) A (call (.ref f) vs) (PQ bx FL X s (φ k ds)) (PE C bx FL s (φ k ds)) s

structure Gl (prog : Program) (w : World) (K : Frag) (hb : Heap) (C : Addr) (bx : Bx) (xc : Prop) (nn : Nat) (Φ : PhiT) (Γ : GamT) : Prop where
  kin : K.In hb
  top : ∃ p loose mg mb, TopRead p loose mg mb hb
  phi : ∀ f φ, Φ (tok f) = some φ → ∃ a, nsIn K mainGlobals f = some (some (.ref a)) ∧ keepIn K (.ref a) = true ∧ Con prog w hb C bx xc nn a φ
  gam : ∀ x d, Γ (tok x) = some d → ∃ v, nsIn K mainGlobals x = some (some v) ∧ ∀ (X : Addr → Prop) (h : Heap), (∀ a, X a → hb.get? a = none) → (∀ b o, hb.get? b = some o → h.get? b = some o) → Rep bx X h v d
  blt : ∀ x, ((biOf x).isSome = true ∨ x = ("range" : Str)) → nsIn K mainGlobals x = some none

/-- how an exception passes a comprehension -/
noncomputable def PlComp (prog : Program) (w : World) (C : Addr) (bx : Bx) (hb : Heap) : Prop :=
  ∀ (A : Around) (FL : List Addr) (nn : Nat) (X : Addr → Prop) (cenv : Env) (Cc : Addr) (acc : Value) (use : Option (Value → Sem Unit)) (Q : Value → Shared → Prop) (E : Value → Shared → Prop) (sr s' : Shared) (e : Addr) (kd : Str) (k k' : Nat),
    Cx bx hb A FL nn X sr k → cenv.locals = Cc → (∃ L ∈ FL, cenv.frame = some L) → Step bx FL sr s' k' → ExcAt C false sr.heap s'.heap e kd → (∃ m, s'.heap.Ns Cc m) → sr.heap.get? Cc = none → (∃ hx : Heap, (∃ m, hx.Ns Cc m) ∧ ExcAt C false hx s'.heap e kd ∧ (∀ b, hx.get? b = none → sr.heap.get? b = none) ∧ ∀ b, s'.heap.get? b = none → hx.get? b = none) →
    (∀ s'', Step bx FL sr s'' k' → ExcAt C false sr.heap s''.heap e kd → E (.ref e) s'') →
    notedBy (model prog w) A cenv (fun e s'' => compPost (model prog w) A E use Q acc Cc (.error e) s'') (.ref e) s'

section
variable {Φ : PhiT} {Γ : GamT} {n : Nat} {ρ : Rho} {k : Nat}
theorem ev_int {i : Int} : ev Φ Γ (n + 1) .val ρ k (.int i) = .ok (.int i) k := rfl
theorem ev_str {x : Str} : ev Φ Γ (n + 1) .val ρ k (.str x) = .ok (.str x) k := rfl
theorem ev_none : ev Φ Γ (n + 1) .val ρ k .none = .ok .none k := rfl
theorem ev_bin {o : Operator} {a b : X} : ev Φ Γ (n + 1) .val ρ k (.bin o a b) = (ev Φ Γ n .val ρ k a).bind fun x k => (ev Φ Γ n .val ρ k b).bind fun y k => binD o x y k := rfl
theorem ev_cmp {o : CmpOp} {a b : X} : ev Φ Γ (n + 1) .val ρ k (.cmp o a b) = (ev Φ Γ n .val ρ k a).bind fun x k => (ev Φ Γ n .val ρ k b).bind fun y k => cmpD o x y k := rfl
theorem ev_neg {a : X} : ev Φ Γ (n + 1) .val ρ k (.neg a) = (ev Φ Γ n .val ρ k a).bind fun x k => match x with
      | .int i => .ok (.int (-i)) k
      | _ => .stuck := rfl
theorem ev_ite {c a b : X} : ev Φ Γ (n + 1) .val ρ k (.ite c a b) = (ev Φ Γ n .test ρ k c).bind fun d k => match d with
      | .bool true => ev Φ Γ n .val ρ k a
      | .bool false => ev Φ Γ n .val ρ k b
      | _ => .stuck := rfl
theorem evT_ite {c a b : X} : ev Φ Γ (n + 1) .test ρ k (.ite c a b) = (ev Φ Γ n .test ρ k c).bind fun d k => match d with
      | .bool true => ev Φ Γ n .test ρ k a
      | .bool false => ev Φ Γ n .test ρ k b
      | _ => .stuck := rfl
theorem evT_not {a : X} : ev Φ Γ (n + 1) .test ρ k (.not a) = (ev Φ Γ n .test ρ k a).bind fun d k => match d with
      | .bool b => .ok (.bool (!b)) k
      | _ => .stuck := rfl
end

theorem boot_bi {f : Str} {b : Bi} (h : biOf f = some b) : bootBuiltins f = some (biV b) ∧ f ≠ "__name__" := by
  have e1 : bootBuiltins (Str.ofString "abs") = some (.builtin "abs") := by decide +kernel
  have e2 : bootBuiltins (Str.ofString "len") = some (.builtin "len") := by decide +kernel
  have e3 : bootBuiltins (Str.ofString "min") = some (.builtin "min") := by decide +kernel
  have e4 : bootBuiltins (Str.ofString "max") = some (.builtin "max") := by decide +kernel
  have e5 : bootBuiltins (Str.ofString "list") = some (.type "list") := by decide +kernel
  have e6 : bootBuiltins (Str.ofString "str") = some (.type "str") := by decide +kernel
  unfold biOf at h
  split at h
  · rename_i q; cases h; rw [beq_iff_eq.mp q]; exact ⟨e1, by decide⟩
  · split at h
    · rename_i q; cases h; rw [beq_iff_eq.mp q]; exact ⟨e2, by decide⟩
    · split at h
      · rename_i q; cases h; rw [beq_iff_eq.mp q]; exact ⟨e3, by decide⟩
      · split at h
        · rename_i q; cases h; rw [beq_iff_eq.mp q]; exact ⟨e4, by decide⟩
        · split at h
          · rename_i q; cases h; rw [beq_iff_eq.mp q]; exact ⟨e5, by decide⟩
          · split at h
            · rename_i q; cases h; rw [beq_iff_eq.mp q]; exact ⟨e6, by decide⟩
            · cases h
theorem boot_range : bootBuiltins (Str.ofString "range") = some (.type "range") := by decide +kernel

theorem folded_pure {it : PySem.Expr} {ε : Env} (h : ∀ elts k p, it ≠ .Set elts k p) (x : Value) : foldedSetIterable it ε x = pure x := by
  cases it with
  | Set elts k p => exact absurd rfl (h elts k p)
  | _ => rfl

theorem marked_pure {op : CmpOp} {r : PySem.Expr} (h : ∀ elts k p, r ≠ .Set elts k p) : behindInMarks op r = false := by
  cases r with
  | Set elts k p => exact absurd rfl (h elts k p)
  | _ => rfl

theorem star_plain {e : PySem.Expr} {rest : List PySem.Expr} {ε : Env} (h : ∀ a p, e ≠ .Starred a p) : starEach (e :: rest) ε = (false, eval e ε) :: starEach rest ε := by
  cases e with
  | Starred a p => exact absurd rfl (h a p)
  | _ => rfl

theorem not_other {Φ : PhiT} {Γ : GamT} {xc : Prop} {n : Nat} {md : Md} {ρ : Rho} {k : Nat} (h : (ev Φ Γ n md ρ k .other).good xc) : False := by
  cases n with
  | zero => exact h
  | succ n =>
    cases md with
    | val => exact h
    | test =>
      cases n with
      | zero => exact h
      | succ n => exact h
    | iter =>
      cases n with
      | zero => exact h
      | succ n => exact h

theorem er_star {m : Nat} {sc : Sc} {a : PySem.Expr} {p : Pos} : er m sc (.Starred a p) = .other := by cases m <;> rfl
theorem er_set {m : Nat} {sc : Sc} {a : List PySem.Expr} {k : Nat} {p : Pos} : er m sc (.Set a k p) = .other := by cases m <;> rfl
theorem er_slice {m : Nat} {sc : Sc} {a b d : Option PySem.Expr} {p : Pos} : er m sc (.Slice a b d p) = .other := by cases m <;> rfl

end Mine

open PySem PySem.W PySem.Spec PySem.Calls PyProof.Rows
set_option Elab.async false
set_option maxRecDepth 100000
set_option linter.unusedVariables false
namespace Mine

section
variable {prog : Program} {w : World} {K : Frag} {hb : Heap} {C : Addr} {bx : Bx} {xc : Prop} {nn : Nat} {Φ : PhiT} {Γ : GamT} {A : Around} {FL : List Addr}

noncomputable def SV (prog : Program) (w : World) (hb : Heap) (C : Addr) (bx : Bx) (xc : Prop) (nn : Nat) (Φ : PhiT) (Γ : GamT) (A : Around) (FL : List Addr) (n : Nat) : Prop :=
  ∀ (m : Nat) (sc : Sc) (ε : Env) (ρ : Rho) (e : PySem.Expr) (X : Addr → Prop) (s : Shared) (k : Nat), Cx bx hb A FL nn X s k → Vw bx FL X ε sc s.heap ρ → (ev Φ Γ n .val ρ k (er m sc e)).good xc →
    wpAny (model prog w) A (eval e ε) (PQ bx FL X s (ev Φ Γ n .val ρ k (er m sc e))) (PE C bx FL s (ev Φ Γ n .val ρ k (er m sc e))) s
noncomputable def ST (prog : Program) (w : World) (hb : Heap) (C : Addr) (bx : Bx) (xc : Prop) (nn : Nat) (Φ : PhiT) (Γ : GamT) (A : Around) (FL : List Addr) (n : Nat) : Prop :=
  ∀ (m : Nat) (sc : Sc) (ε : Env) (ρ : Rho) (e : PySem.Expr) (X : Addr → Prop) (s : Shared) (k : Nat), Cx bx hb A FL nn X s k → Vw bx FL X ε sc s.heap ρ → (ev Φ Γ n .test ρ k (er m sc e)).good xc →
    wpAny (model prog w) A (isTrue e ε (eval e ε)) (PQB bx FL s (ev Φ Γ n .test ρ k (er m sc e))) (PE C bx FL s (ev Φ Γ n .test ρ k (er m sc e))) s
noncomputable def SI (prog : Program) (w : World) (hb : Heap) (C : Addr) (bx : Bx) (xc : Prop) (nn : Nat) (Φ : PhiT) (Γ : GamT) (A : Around) (FL : List Addr) (n : Nat) : Prop :=
  ∀ (m : Nat) (sc : Sc) (ε : Env) (ρ : Rho) (e : PySem.Expr) (X : Addr → Prop) (s : Shared) (k : Nat), Cx bx hb A FL nn X s k → Vw bx FL X ε sc s.heap ρ → (ev Φ Γ n .iter ρ k (er m sc e)).good xc →
    wpAny (model prog w) A (eval e ε) (fun xv s₁ => wpAny (model prog w) A (pyIter xv) (IQ prog w bx A FL X s (ev Φ Γ n .iter ρ k (er m sc e))) (PE C bx FL s (ev Φ Γ n .iter ρ k (er m sc e))) s₁) (PE C bx FL s (ev Φ Γ n .iter ρ k (er m sc e))) s

section
variable {X : Addr → Prop} {s : Shared} {k : Nat}

/-- the same, the run's start further back -/
theorem PQ.up {s₀ s s' : Shared} {k₁ : Nat} {r r' : Rz D} {v : Value} (st : Step bx FL s₀ s k₁) (e : ∀ d k, r = .ok d k → r' = .ok d k) (h : PQ bx FL X s r v s') : PQ bx FL X s₀ r' v s' := by
  obtain ⟨d, k, e1, st', rp⟩ := h
  exact ⟨d, k, e _ _ e1, st.trans st', rp⟩
theorem PQB.up {s₀ s s' : Shared} {k₁ : Nat} {r r' : Rz D} {b : Bool} (st : Step bx FL s₀ s k₁) (e : ∀ d k, r = .ok d k → r' = .ok d k) (h : PQB bx FL s r b s') : PQB bx FL s₀ r' b s' := by
  obtain ⟨k, e1, st'⟩ := h
  exact ⟨k, e _ _ e1, st.trans st'⟩
theorem IQ.up {s₀ s s' : Shared} {k₀ k₁ : Nat} {r r' : Rz D} {v : Value} (c : Cx bx hb A FL nn X s₀ k₀) (st : Step bx FL s₀ s k₁) (e : ∀ d k, r = .ok d k → r' = .ok d k) (h : IQ prog w bx A FL X s r v s') : IQ prog w bx A FL X s₀ r' v s' := by
  obtain ⟨items, k, I, St, Y, e1, e2, st', h1, r⟩ := h
  exact ⟨items, k, I, St, Y, e _ _ e1, e2, st.trans st', st.old c h1, r⟩

theorem good_ne {r : Rz D} (h : r.good xc) : r ≠ .stuck := fun e => by rw [e] at h; exact h

/-- one part, then the rest -/
theorem thenV {t : Sem Value} {s₀ : Shared} {k₀ k₁ : Nat} {β : Type} {r₁ : Rz D} {f : D → Nat → Rz β} {Q : Value → Shared → Prop} (c₀ : Cx bx hb A FL nn X s₀ k₀) (st₀ : Step bx FL s₀ s k₁)
    (W : r₁.good xc → wpAny (model prog w) A t (PQ bx FL X s r₁) (PE C bx FL s r₁) s) (hg : (r₁.bind f).good xc)
    (next : ∀ d k v s', r₁ = .ok d k → (f d k).good xc → Step bx FL s s' k → Rep bx X s'.heap v d → Q v s') : wpAny (model prog w) A t Q (PE C bx FL s₀ (r₁.bind f)) s :=
  wpAny_mono (W (Rz.good_bind hg)) (fun v s' ⟨d, k, e, st, rp⟩ => next d k v s' e (by rw [e] at hg; exact hg) st rp) fun e s' h => h.lift c₀ st₀ exc_bind
theorem thenB {t : Sem Bool} {s₀ : Shared} {k₀ k₁ : Nat} {β : Type} {r₁ : Rz D} {f : D → Nat → Rz β} {Q : Bool → Shared → Prop} (c₀ : Cx bx hb A FL nn X s₀ k₀) (st₀ : Step bx FL s₀ s k₁)
    (W : r₁.good xc → wpAny (model prog w) A t (PQB bx FL s r₁) (PE C bx FL s r₁) s) (hg : (r₁.bind f).good xc)
    (next : ∀ b k s', r₁ = .ok (.bool b) k → (f (.bool b) k).good xc → Step bx FL s s' k → Q b s') : wpAny (model prog w) A t Q (PE C bx FL s₀ (r₁.bind f)) s :=
  wpAny_mono (W (Rz.good_bind hg)) (fun v s' ⟨k, e, st⟩ => next v k s' e (by rw [e] at hg; exact hg) st) fun e s' h => h.lift c₀ st₀ exc_bind
theorem thenL {t : Sem (List Value)} {s₀ : Shared} {k₀ k₁ : Nat} {β : Type} {r₁ : Rz (List D)} {f : List D → Nat → Rz β} {Q : List Value → Shared → Prop} (c₀ : Cx bx hb A FL nn X s₀ k₀) (st₀ : Step bx FL s₀ s k₁)
    (W : r₁.good xc → wpAny (model prog w) A t (PQL bx FL X s r₁) (PE C bx FL s r₁) s) (hg : (r₁.bind f).good xc)
    (next : ∀ d k v s', r₁ = .ok d k → (f d k).good xc → Step bx FL s s' k → RepL bx X s'.heap v d → Q v s') : wpAny (model prog w) A t Q (PE C bx FL s₀ (r₁.bind f)) s :=
  wpAny_mono (W (Rz.good_bind hg)) (fun v s' ⟨d, k, e, st, rp⟩ => next d k v s' e (by rw [e] at hg; exact hg) st rp) fun e s' h => h.lift c₀ st₀ exc_bind
/-- a last part -/
theorem lastV {t : Sem Value} {s₀ : Shared} {k₀ k₁ : Nat} {r₁ r : Rz D} (c₀ : Cx bx hb A FL nn X s₀ k₀) (st₀ : Step bx FL s₀ s k₁) (e : r = r₁)
    (W : r₁.good xc → wpAny (model prog w) A t (PQ bx FL X s r₁) (PE C bx FL s r₁) s) (hg : r₁.good xc) : wpAny (model prog w) A t (PQ bx FL X s₀ r) (PE C bx FL s₀ r) s := by
  subst e
  exact wpAny_mono (W hg) (fun v s' h => h.up st₀ fun _ _ e => e) fun e s' h => h.lift c₀ st₀ fun _ _ e => e
theorem lastB {t : Sem Bool} {s₀ : Shared} {k₀ k₁ : Nat} {r₁ r : Rz D} (c₀ : Cx bx hb A FL nn X s₀ k₀) (st₀ : Step bx FL s₀ s k₁) (e : r = r₁)
    (W : r₁.good xc → wpAny (model prog w) A t (PQB bx FL s r₁) (PE C bx FL s r₁) s) (hg : r₁.good xc) : wpAny (model prog w) A t (PQB bx FL s₀ r) (PE C bx FL s₀ r) s := by
  subst e
  exact wpAny_mono (W hg) (fun v s' h => h.up st₀ fun _ _ e => e) fun e s' h => h.lift c₀ st₀ fun _ _ e => e
end

section
variable {X : Addr → Prop} {s : Shared} {k : Nat} {n m : Nat} {sc : Sc} {ε : Env} {ρ : Rho}

theorem evL_sound (H : SV prog w hb C bx xc nn Φ Γ A FL n) {pos : Pos} : ∀ (args : List PySem.Expr) (s : Shared) (k : Nat), Cx bx hb A FL nn X s k → Vw bx FL X ε sc s.heap ρ →
    (evL (fun k e => ev Φ Γ n .val ρ k e) (args.map (er m sc)) k).good xc →
    wpAny (model prog w) A (spliced (backTo pos (starEach args ε))) (PQL bx FL X s (evL (fun k e => ev Φ Γ n .val ρ k e) (args.map (er m sc)) k)) (PE C bx FL s (evL (fun k e => ev Φ Γ n .val ρ k e) (args.map (er m sc)) k)) s
  | [], s, k, c, V, hg => spliced_nil ⟨_, _, rfl, c.self, .nil⟩
  | e :: r, s, k, c, V, hg => by
    have hg' : ((ev Φ Γ n .val ρ k (er m sc e)).bind fun d k => (evL (fun k e => ev Φ Γ n .val ρ k e) (r.map (er m sc)) k).bind fun ds k => Rz.ok (d :: ds) k).good xc := hg
    rw [star_plain fun a p q => by subst q; rw [er_star] at hg'; exact not_other (Rz.good_bind hg')]
    show wpAny _ _ (spliced ((false, eval e ε) :: backTo pos (starEach r ε))) (PQL bx FL X s ((ev Φ Γ n .val ρ k (er m sc e)).bind fun d k => (evL (fun k e => ev Φ Γ n .val ρ k e) (r.map (er m sc)) k).bind fun ds k => Rz.ok (d :: ds) k)) (PE C bx FL s ((ev Φ Γ n .val ρ k (er m sc e)).bind fun d k => (evL (fun k e => ev Φ Γ n .val ρ k e) (r.map (er m sc)) k).bind fun ds k => Rz.ok (d :: ds) k)) s
    refine spliced_cons (thenV c c.self (H m sc ε ρ e X s k c V) hg' fun d k₁ v s₁ e1 hg1 st₁ r₁ => ?_)
    have c₁ := c.step st₁
    have V₁ := V.step c st₁
    rw [ok_bind e1]
    refine thenL c st₁ (evL_sound H r s₁ k₁ c₁ V₁) hg1 fun ds k₂ vs s₂ e2 _ st₂ r₂ => ?_
    exact ⟨_, _, ok_bind e2, st₁.trans st₂, .cons (r₁.ext c₁.wd st₂.ext) r₂⟩

theorem stars_plain {pos : Pos} : ∀ (args : List PySem.Expr), args.any isStar = false → (backTo pos (starEach args ε)).any (·.1) = false
  | [], _ => rfl
  | e :: r, h => by
    rw [List.any_cons, Bool.or_eq_false_iff] at h
    rw [star_plain fun a p q => by subst q; exact absurd h.1 (by intro z; cases z)]
    show ((false, eval e ε) :: backTo pos (starEach r ε)).any (·.1) = false
    rw [List.any_cons, stars_plain r h.2]; rfl
end
end
end Mine

open PySem PySem.W PySem.Spec PySem.Calls PyProof.Rows
set_option Elab.async false
set_option maxRecDepth 100000
set_option linter.unusedVariables false
namespace Mine

section
variable {prog : Program} {w : World} {K : Frag} {hb : Heap} {C : Addr} {bx : Bx} {xc : Prop} {nn : Nat} {Φ : PhiT} {Γ : GamT} {A : Around} {FL : List Addr}
variable {X : Addr → Prop} {s : Shared} {k : Nat} {n m : Nat} {sc : Sc} {ε : Env} {ρ : Rho}

theorem name_var (V : Vw bx FL X ε sc s.heap ρ) {x : Str} {p : Pos} {v : Value} {Q : Value → Shared → Prop} {E : Value → Shared → Prop} (hv : vis sc x = true) (H : Holds ε s.heap x v) (h : Q v s) : wpAny (model prog w) A (eval (.Name x p) ε) Q E s := by
  have hd : (x == ("__debug__" : Str)) = false := by
    unfold vis at hv
    simp only [Bool.and_eq_true, bne_iff_ne, ne_eq] at hv
    simpa using hv.1.2
  refine wpAny_Name ?_ hd
  rcases H with ⟨hk, m, hm, e⟩ | ⟨hk, c, o, hc, ho, e⟩
  · exact wpAny_loadName_local V.ek hk hm e h
  · exact wpAny_loadName_cell V.ek hk hc ⟨o, ho, e⟩ h

theorem glob_parts {x : Str} (h : isGlob sc x = true) : (x == ("__debug__" : Str)) = false ∧ sc.lookup x = some .globalImplicit := by
  unfold isGlob at h
  simp only [Bool.and_eq_true, bne_iff_ne, ne_eq, beq_iff_eq] at h
  exact ⟨by simpa using h.1.1, h.2⟩

theorem name_glob (G : Gl prog w K hb C bx xc nn Φ Γ) (c : Cx bx hb A FL nn X s k) (V : Vw bx FL X ε sc s.heap ρ) {x : Str} {p : Pos} {v : Value} {Q : Value → Shared → Prop} {E : Value → Shared → Prop} (hg : isGlob sc x = true) (e : nsIn K mainGlobals x = some (some v)) (h : Q v s) :
    wpAny (model prog w) A (eval (.Name x p) ε) Q E s := by
  obtain ⟨_, _, mg, mb, T⟩ := G.top
  have gp := glob_parts hg
  refine Name_function_global V.ek (V.glo x gp.2) (loadGlobal_global (env := ε) (mg := mg) ?_ (mg_of G.kin T.g e) h) gp.1
  rw [V.eg]; exact T.g.keeps c.wd.base
theorem name_built (G : Gl prog w K hb C bx xc nn Φ Γ) (c : Cx bx hb A FL nn X s k) (V : Vw bx FL X ε sc s.heap ρ) {x : Str} {p : Pos} {v : Value} {Q : Value → Shared → Prop} {E : Value → Shared → Prop} (hg : isGlob sc x = true) (e : nsIn K mainGlobals x = some none) (hv : bootBuiltins x = some v) (h : Q v s) :
    wpAny (model prog w) A (eval (.Name x p) ε) Q E s := by
  obtain ⟨_, _, mg, mb, T⟩ := G.top
  have gp := glob_parts hg
  have hn : x ≠ "__name__" := by
    unfold isGlob at hg
    simp only [Bool.and_eq_true, bne_iff_ne, ne_eq, beq_iff_eq] at hg
    exact hg.1.2
  refine Name_function_global V.ek (V.glo x gp.2) (loadGlobal_builtin (env := ε) (mg := mg) (mb := mb) ?_ (mg_none_of G.kin T.g e) ?_ ((T.builtins x hn).trans hv) h) gp.1
  · rw [V.eg]; exact T.g.keeps c.wd.base
  · rw [V.eb]; exact T.b.keeps c.wd.base

theorem callWith_go {pos : Pos} {f : Value} {args : List PySem.Expr} {Q : Value → Shared → Prop} {E : Value → Shared → Prop} {P : Heap → Prop} (hp : (args.isEmpty || args.any isStar) = false)
    (hk : ∀ h : Heap, P h → ∃ k, (k = Keeper.frame ∨ k = Keeper.machine ∨ k = Keeper.boundFrame) ∧ Looks (model prog w) h (keeperOf f) k)
    (h : wpAny (model prog w) A (spliced (backTo pos (starEach args ε))) (fun vs s₁ => P s₁.heap ∧ wpAny (model prog w) A (call f vs) Q E s₁) E s) :
    wpAny (model prog w) A (callWith pos f [] (backTo pos (starEach args ε)) []) Q E s := by
  rw [Bool.or_eq_false_iff] at hp
  have pl := stars_plain (ε := ε) (pos := pos) args hp.2
  cases args with
  | nil => exact absurd hp.1 (by intro z; cases z)
  | cons e r =>
    have e1 : ∀ a p, e ≠ .Starred a p := fun a p q => by
      subst q
      rw [List.any_cons, Bool.or_eq_false_iff] at hp
      exact absurd hp.2.1 (by intro z; cases z)
    rw [star_plain e1] at h pl ⊢
    refine callWith_of ?_ hk (evalArgs_plain h)
    simpa using pl

theorem tupL (c : Cx bx hb A FL nn X s k) {vs : List Value} {ds : List D} {E : Value → Shared → Prop} (r : RepL bx X s.heap vs ds) (hl : ds.length ≤ 1000) : wpAny (model prog w) A (newTuple vs) (PQ bx FL X s (.ok (.tuple ds) k)) E s := by
  have h24 : sizeLine = 2 ^ 24 := by decide
  refine wpAny_newObj_type ?_ (by show vs.toArray.size ≤ sizeLine; rw [List.size_toArray, r.length]; omega)
  have g : ∀ b o, s.heap.get? b = some o → (s.heap.push { cls := .type "tuple", data := .seq vs.toArray }).get? b = some o := fun b o e => Heap.get?_push_of_some _ e
  have st : Step bx FL s { s with heap := s.heap.push { cls := .type "tuple", data := .seq vs.toArray } } k := c.grow (tk := s.toks) g
  exact ⟨_, _, rfl, st, .tup c.fresh (Heap.get?_push_size _ rfl) rfl rfl (r.ext c.wd st.ext)⟩
theorem lstL (c : Cx bx hb A FL nn X s k) {vs : List Value} {ds : List D} {E : Value → Shared → Prop} (r : RepL bx X s.heap vs ds) (hl : ds.length ≤ 1000) : wpAny (model prog w) A (newList vs) (PQ bx FL X s (.ok (.list ds) k)) E s := by
  have h24 : sizeLine = 2 ^ 24 := by decide
  refine wpAny_newObj_type ?_ (by show vs.toArray.size ≤ sizeLine; rw [List.size_toArray, r.length]; omega)
  have g : ∀ b o, s.heap.get? b = some o → (s.heap.push { cls := .type "list", data := .seq vs.toArray }).get? b = some o := fun b o e => Heap.get?_push_of_some _ e
  have st : Step bx FL s { s with heap := s.heap.push { cls := .type "list", data := .seq vs.toArray } } k := c.grow (tk := s.toks) g
  exact ⟨_, _, rfl, st, .lst c.fresh (Heap.get?_push_size _ rfl) (r.ext c.wd st.ext)⟩

/-- a comprehension's own run, whatever it is used for -/
theorem comp_sound (pl : xc → PlComp prog w C bx hb) (HI : SI prog w hb C bx xc nn Φ Γ A FL n) (HV : SV prog w hb C bx xc nn Φ Γ A FL n) {elt it : PySem.Expr} {x : Str} {px : Pos} {scope : Scope} {pos : Pos}
    (c : Cx bx hb A FL nn X s k) (V : Vw bx FL X ε sc s.heap ρ) (O : CompOk sc scope x) (hset : ∀ elts k p, it ≠ .Set elts k p)
    {r : Rz D} (hr : r = (ev Φ Γ n .iter ρ k (er m sc it)).bind fun d k => match d with
      | .list items => (evM (fun d k => ev Φ Γ n .val ((tok x, .val d) :: ρ) k (er m scope.names elt)) items k).bind fun ys k => .ok (.list ys) k
      | _ => .stuck) (hg : r.good xc) {use : Option (Value → Sem Unit)} {Q : Value → Shared → Prop}
    (fin : ∀ D ys k' C' s', r = .ok (.list ys) k' → Step bx FL s s' k' → Rep bx X s'.heap (.ref D) (.list ys) → (∃ n vs, s'.heap.get? D = some { cls := .type "list", data := .seq (List.toArray vs) n } ∧ RepL bx (fun a => X a ∨ a = D ∨ a = C') s'.heap vs ys) → (∃ m, s'.heap.Ns C' m) → s.heap.get? C' = none → s.heap.get? D = none → C' ≠ D → ¬ X D →
      compPost (model prog w) A (PE C bx FL s r) use Q (.ref D) C' (.ok .next) s') :
    wpAny (model prog w) A (comprehension (.ListComp elt [⟨.Name x px, it, [], 0⟩] scope pos) scope ε (firstIterPos [⟨.Name x px, it, [], 0⟩] pos) (newList []) false (eval it ε) use) Q (PE C bx FL s r) s := by
  have hfree : ∀ p ∈ scope.names, p.2 = .free → ∃ c, ε.cells.lookup p.1 = some c := fun p hp hf => by
    rcases O.names p hp with q | q | q
    · rw [hf] at q; exact absurd q.1 (by intro z; cases z)
    · exact (V.cel _ q.2.1).2
    · rw [hf] at q; exact absurd q (by intro z; cases z)
  have hnames : ∀ y ∈ scope.names, y.2 = .local → scope.names.lookup y.1 = some .local := fun y hy hl => by
    rcases O.names y hy with q | q | q
    · exact q.2.1
    · rw [hl] at q; exact absurd q.1 (by intro z; cases z)
    · rw [hl] at q; exact absurd q (by intro z; cases z)
  subst hr
  refine wpAny_comprehension_free (use := use) (g := ⟨.Name x px, it, [], 0⟩) (gs := []) rfl (folded_pure hset) (closureFor_eq hfree) O.kind hnames ?_
  refine wpAny_mono (HI m sc ε ρ it X s k c V (Rz.good_bind hg)) (fun xv s₁ h₁ => ?_) fun e s' h => h.lift c c.self exc_bind
  refine wpAny_mono h₁ (fun itv s₂ h₂ => ?_) fun e s' h => h.lift c c.self exc_bind
  obtain ⟨items, k₂, I, St, Y, e1, rfl, st₂, hI, lI, nI, IA, hst, hsz, hXY, hYI, hNY⟩ := h₂
  rw [ok_bind e1] at hg fin ⊢
  dsimp only at hg fin ⊢
  refine comp_block (F := fun ρ k => ev Φ Γ n .val ρ k (er m scope.names elt)) c st₂ V O hI lI nI IA hst hsz hXY hYI hNY (fun X' ε' ρ' s' k' c' V' hg' => HV m scope.names ε' ρ' elt X' s' k' c' V' hg') (Rz.good_bind hg) ?_ ?_
  · intro D C' h tk m' vs ys nD k' e2 st' hD hR hn hC₀ hD₀ hCD nXD
    rw [ok_bind e2] at fin ⊢
    have st'' : Step bx FL s { s₂ with heap := h, toks := tk } k' := st'
    exact fin D ys k' C' _ rfl st'' (.lst nXD hD (hR.map (fun a o q e => ⟨fun z => q (.inl z), e⟩) fun _ _ z => z)) ⟨_, _, hD, hR⟩ ⟨_, hn⟩ hC₀ hD₀ hCD nXD
  · intro D C' s' e kd k' e2 st' xx hn hC₀ hz
    have hx : xc := by rw [e2] at hg; exact hg
    obtain ⟨L, hL, hf⟩ := V.fr
    exact pl hx A FL nn X _ C' (.ref D) use Q _ s s' e kd k k' c rfl ⟨L, hL, hf⟩ st' xx hn hC₀ hz fun s'' st'' x'' => ⟨kd, k', e, by rw [e2]; rfl, rfl, st'', x''⟩
end
end Mine

open PySem PySem.W PySem.Spec PySem.Calls PyProof.Rows
set_option Elab.async false
set_option maxRecDepth 100000
set_option linter.unusedVariables false
namespace Mine

section
variable {prog : Program} {w : World} {K : Frag} {hb : Heap} {C : Addr} {bx : Bx} {xc : Prop} {nn : Nat} {Φ : PhiT} {Γ : GamT} {A : Around} {FL : List Addr}
variable {X : Addr → Prop} {s : Shared} {k : Nat} {n m : Nat} {sc : Sc} {ε : Env} {ρ : Rho}

theorem andV_cons {f : Nat → Mine.X → Rz D} {e e' : Mine.X} {r : List Mine.X} {k : Nat} : andV f (e :: e' :: r) k = (f k e).bind fun d k => match d with
    | .bool true => andV f (e' :: r) k
    | .bool false => .ok (.bool false) k
    | _ => .stuck := rfl
theorem orV_cons {f : Nat → Mine.X → Rz D} {e e' : Mine.X} {r : List Mine.X} {k : Nat} : orV f (e :: e' :: r) k = (f k e).bind fun d k => match d with
    | .bool false => orV f (e' :: r) k
    | .bool true => .ok (.bool true) k
    | _ => .stuck := rfl

theorem tru_bool {b : Bool} {Q : Bool → Shared → Prop} {E : Value → Shared → Prop} (h : Q b s) : wpAny (model prog w) A (truthy (.bool b)) Q E s := wpAny_truthy_bool h

theorem andV_sound (H : SV prog w hb C bx xc nn Φ Γ A FL n) {pos : Pos} : ∀ (l : List PySem.Expr) (s : Shared) (k : Nat), Cx bx hb A FL nn X s k → Vw bx FL X ε sc s.heap ρ →
    (andV (fun k e => ev Φ Γ n .val ρ k e) (l.map (er m sc)) k).good xc →
    wpAny (model prog w) A (boolOp pos .And (evalEach l ε)) (PQ bx FL X s (andV (fun k e => ev Φ Γ n .val ρ k e) (l.map (er m sc)) k)) (PE C bx FL s (andV (fun k e => ev Φ Γ n .val ρ k e) (l.map (er m sc)) k)) s
  | [], s, k, c, V, hg => hg.elim
  | [e], s, k, c, V, hg => H m sc ε ρ e X s k c V hg
  | e :: e' :: r, s, k, c, V, hg => by
    show wpAny _ _ (do
      let v ← eval e ε
      standAt pos
      let t ← holding [v] (truthy v)
      match BoolOp.And, t with
      | .And, false | .Or, true => pure v
      | _, _ => boolOp pos .And (evalEach (e' :: r) ε)) _ _ _
    have hg' : ((ev Φ Γ n .val ρ k (er m sc e)).bind fun d k => match d with
      | .bool true => andV (fun k e => ev Φ Γ n .val ρ k e) ((e' :: r).map (er m sc)) k
      | .bool false => .ok (.bool false) k
      | _ => .stuck).good xc := hg
    show wpAny _ _ _ (PQ bx FL X s ((ev Φ Γ n .val ρ k (er m sc e)).bind fun d k => match d with
      | .bool true => andV (fun k e => ev Φ Γ n .val ρ k e) ((e' :: r).map (er m sc)) k
      | .bool false => .ok (.bool false) k
      | _ => .stuck)) (PE C bx FL s ((ev Φ Γ n .val ρ k (er m sc e)).bind fun d k => match d with
      | .bool true => andV (fun k e => ev Φ Γ n .val ρ k e) ((e' :: r).map (er m sc)) k
      | .bool false => .ok (.bool false) k
      | _ => .stuck)) s
    refine wpAny_bind (thenV c c.self (H m sc ε ρ e X s k c V) hg' fun d k₁ v s₁ e1 hg1 st₁ r₁ => wpAny_bind (wpAny_standAt (wpAny_bind (wpAny_holding ?_))))
    rw [ok_bind e1]
    have c₁ := c.step st₁
    cases r₁ with
    | bool b =>
      refine tru_bool ?_
      cases b with
      | false => exact wpAny_pure ⟨_, _, rfl, st₁, .bool _⟩
      | true => exact lastV c st₁ rfl (andV_sound H (e' :: r) s₁ k₁ c₁ (V.step c st₁)) hg1
    | none => exact hg1.elim
    | int => exact hg1.elim
    | str => exact hg1.elim
    | tup => exact hg1.elim
    | lst => exact hg1.elim
    | box => exact hg1.elim

theorem orV_sound (H : SV prog w hb C bx xc nn Φ Γ A FL n) {pos : Pos} : ∀ (l : List PySem.Expr) (s : Shared) (k : Nat), Cx bx hb A FL nn X s k → Vw bx FL X ε sc s.heap ρ →
    (orV (fun k e => ev Φ Γ n .val ρ k e) (l.map (er m sc)) k).good xc →
    wpAny (model prog w) A (boolOp pos .Or (evalEach l ε)) (PQ bx FL X s (orV (fun k e => ev Φ Γ n .val ρ k e) (l.map (er m sc)) k)) (PE C bx FL s (orV (fun k e => ev Φ Γ n .val ρ k e) (l.map (er m sc)) k)) s
  | [], s, k, c, V, hg => hg.elim
  | [e], s, k, c, V, hg => H m sc ε ρ e X s k c V hg
  | e :: e' :: r, s, k, c, V, hg => by
    show wpAny _ _ (do
      let v ← eval e ε
      standAt pos
      let t ← holding [v] (truthy v)
      match BoolOp.Or, t with
      | .And, false | .Or, true => pure v
      | _, _ => boolOp pos .Or (evalEach (e' :: r) ε)) _ _ _
    have hg' : ((ev Φ Γ n .val ρ k (er m sc e)).bind fun d k => match d with
      | .bool false => orV (fun k e => ev Φ Γ n .val ρ k e) ((e' :: r).map (er m sc)) k
      | .bool true => .ok (.bool true) k
      | _ => .stuck).good xc := hg
    show wpAny _ _ _ (PQ bx FL X s ((ev Φ Γ n .val ρ k (er m sc e)).bind fun d k => match d with
      | .bool false => orV (fun k e => ev Φ Γ n .val ρ k e) ((e' :: r).map (er m sc)) k
      | .bool true => .ok (.bool true) k
      | _ => .stuck)) (PE C bx FL s ((ev Φ Γ n .val ρ k (er m sc e)).bind fun d k => match d with
      | .bool false => orV (fun k e => ev Φ Γ n .val ρ k e) ((e' :: r).map (er m sc)) k
      | .bool true => .ok (.bool true) k
      | _ => .stuck)) s
    refine wpAny_bind (thenV c c.self (H m sc ε ρ e X s k c V) hg' fun d k₁ v s₁ e1 hg1 st₁ r₁ => wpAny_bind (wpAny_standAt (wpAny_bind (wpAny_holding ?_))))
    rw [ok_bind e1]
    have c₁ := c.step st₁
    cases r₁ with
    | bool b =>
      refine tru_bool ?_
      cases b with
      | true => exact wpAny_pure ⟨_, _, rfl, st₁, .bool _⟩
      | false => exact lastV c st₁ rfl (orV_sound H (e' :: r) s₁ k₁ c₁ (V.step c st₁)) hg1
    | none => exact hg1.elim
    | int => exact hg1.elim
    | str => exact hg1.elim
    | tup => exact hg1.elim
    | lst => exact hg1.elim
    | box => exact hg1.elim

theorem andT_sound (H : ST prog w hb C bx xc nn Φ Γ A FL n) : ∀ (l : List PySem.Expr) (s : Shared) (k : Nat), Cx bx hb A FL nn X s k → Vw bx FL X ε sc s.heap ρ →
    (andT (fun k e => ev Φ Γ n .test ρ k e) (l.map (er m sc)) k).good xc →
    wpAny (model prog w) A (allTrue .And l ε) (PQB bx FL s (andT (fun k e => ev Φ Γ n .test ρ k e) (l.map (er m sc)) k)) (PE C bx FL s (andT (fun k e => ev Φ Γ n .test ρ k e) (l.map (er m sc)) k)) s
  | [], s, k, c, V, hg => wpAny_pure ⟨_, rfl, c.self⟩
  | e :: r, s, k, c, V, hg => by
    show wpAny _ _ (do
      match BoolOp.And, ← isTrue e ε (eval e ε) with
      | .And, false => pure false
      | .Or, true => pure true
      | _, _ => allTrue .And r ε) (PQB bx FL s ((ev Φ Γ n .test ρ k (er m sc e)).bind fun d k => match d with
      | .bool true => andT (fun k e => ev Φ Γ n .test ρ k e) (r.map (er m sc)) k
      | .bool false => .ok (.bool false) k
      | _ => .stuck)) (PE C bx FL s ((ev Φ Γ n .test ρ k (er m sc e)).bind fun d k => match d with
      | .bool true => andT (fun k e => ev Φ Γ n .test ρ k e) (r.map (er m sc)) k
      | .bool false => .ok (.bool false) k
      | _ => .stuck)) s
    have hg' : ((ev Φ Γ n .test ρ k (er m sc e)).bind fun d k => match d with
      | .bool true => andT (fun k e => ev Φ Γ n .test ρ k e) (r.map (er m sc)) k
      | .bool false => .ok (.bool false) k
      | _ => .stuck).good xc := hg
    refine wpAny_bind (thenB c c.self (H m sc ε ρ e X s k c V) hg' fun b k₁ s₁ e1 hg1 st₁ => ?_)
    rw [ok_bind e1]
    have c₁ := c.step st₁
    cases b with
    | false => exact wpAny_pure ⟨_, rfl, st₁⟩
    | true => exact lastB c st₁ rfl (andT_sound H r s₁ k₁ c₁ (V.step c st₁)) hg1

theorem orT_sound (H : ST prog w hb C bx xc nn Φ Γ A FL n) : ∀ (l : List PySem.Expr) (s : Shared) (k : Nat), Cx bx hb A FL nn X s k → Vw bx FL X ε sc s.heap ρ →
    (orT (fun k e => ev Φ Γ n .test ρ k e) (l.map (er m sc)) k).good xc →
    wpAny (model prog w) A (allTrue .Or l ε) (PQB bx FL s (orT (fun k e => ev Φ Γ n .test ρ k e) (l.map (er m sc)) k)) (PE C bx FL s (orT (fun k e => ev Φ Γ n .test ρ k e) (l.map (er m sc)) k)) s
  | [], s, k, c, V, hg => wpAny_pure ⟨_, rfl, c.self⟩
  | e :: r, s, k, c, V, hg => by
    show wpAny _ _ (do
      match BoolOp.Or, ← isTrue e ε (eval e ε) with
      | .And, false => pure false
      | .Or, true => pure true
      | _, _ => allTrue .Or r ε) (PQB bx FL s ((ev Φ Γ n .test ρ k (er m sc e)).bind fun d k => match d with
      | .bool false => orT (fun k e => ev Φ Γ n .test ρ k e) (r.map (er m sc)) k
      | .bool true => .ok (.bool true) k
      | _ => .stuck)) (PE C bx FL s ((ev Φ Γ n .test ρ k (er m sc e)).bind fun d k => match d with
      | .bool false => orT (fun k e => ev Φ Γ n .test ρ k e) (r.map (er m sc)) k
      | .bool true => .ok (.bool true) k
      | _ => .stuck)) s
    have hg' : ((ev Φ Γ n .test ρ k (er m sc e)).bind fun d k => match d with
      | .bool false => orT (fun k e => ev Φ Γ n .test ρ k e) (r.map (er m sc)) k
      | .bool true => .ok (.bool true) k
      | _ => .stuck).good xc := hg
    refine wpAny_bind (thenB c c.self (H m sc ε ρ e X s k c V) hg' fun b k₁ s₁ e1 hg1 st₁ => ?_)
    rw [ok_bind e1]
    have c₁ := c.step st₁
    cases b with
    | true => exact wpAny_pure ⟨_, rfl, st₁⟩
    | false => exact lastB c st₁ rfl (orT_sound H r s₁ k₁ c₁ (V.step c st₁)) hg1

theorem PE.mono0 {r r' : Rz D} (h : r = r') {e : Value} {s' : Shared} (p : PE C bx FL s r e s') : PE C bx FL s r' e s' := h ▸ p

/-- a test that is a plain value -/
theorem plain_test (H : SV prog w hb C bx xc nn Φ Γ A FL n) {e : PySem.Expr} (c : Cx bx hb A FL nn X s k) (V : Vw bx FL X ε sc s.heap ρ) (hi : isTrue e ε (eval e ε) = (do let v ← eval e ε; standAt e.pos; holding [v] (truthy v)))
    {r : Rz D} (hr : r = (ev Φ Γ n .val ρ k (er m sc e)).bind truD) (hg : r.good xc) : wpAny (model prog w) A (isTrue e ε (eval e ε)) (PQB bx FL s r) (PE C bx FL s r) s := by
  subst hr
  rw [hi]
  refine wpAny_bind (thenV c c.self (H m sc ε ρ e X s k c V) hg fun d k₁ v s₁ e1 hg1 st₁ r₁ => wpAny_bind (wpAny_standAt (wpAny_holding ?_)))
  rw [ok_bind e1]
  cases r₁ with
  | bool b => exact tru_bool ⟨_, rfl, st₁⟩
  | none => exact hg1.elim
  | int => exact hg1.elim
  | str => exact hg1.elim
  | tup => exact hg1.elim
  | lst => exact hg1.elim
  | box => exact hg1.elim

/-- an iterated plain value -/
theorem plain_iter (H : SV prog w hb C bx xc nn Φ Γ A FL n) {e : PySem.Expr} (c : Cx bx hb A FL nn X s k) (V : Vw bx FL X ε sc s.heap ρ)
    {r : Rz D} (hr : r = (ev Φ Γ n .val ρ k (er m sc e)).bind itemsD) (hg : r.good xc) :
    wpAny (model prog w) A (eval e ε) (fun xv s₁ => wpAny (model prog w) A (pyIter xv) (IQ prog w bx A FL X s r) (PE C bx FL s r) s₁) (PE C bx FL s r) s := by
  subst hr
  refine thenV c c.self (H m sc ε ρ e X s k c V) hg fun d k₁ v s₁ e1 hg1 st₁ r₁ => ?_
  rw [ok_bind e1]
  exact wpAny_mono (items_sound (E := fun _ _ => False) (c.step st₁) r₁ (good_ne hg1)) (fun v s' h => h.up c st₁ fun _ _ e => e) fun _ _ h => h.elim

noncomputable def spT : Mine.X → Bool
  | .not _ | .band _ | .bor _ | .ite _ _ _ => true
  | _ => false
theorem evT_plain {e : Mine.X} (h : spT e = false) : ev Φ Γ (n + 1) .test ρ k e = (ev Φ Γ n .val ρ k e).bind truD := by
  cases e <;> first | rfl | cases h
noncomputable def spI : Mine.X → Bool
  | .rng _ => true
  | _ => false
theorem evI_plain {e : Mine.X} (h : spI e = false) : ev Φ Γ (n + 1) .iter ρ k e = (ev Φ Γ n .val ρ k e).bind itemsD := by
  cases e <;> first | rfl | cases h

theorem eval_call (f : Str) (p : Pos) (args : List PySem.Expr) (pos : Pos) {Q : Value → Shared → Prop} {E : Value → Shared → Prop}
    (h : wpAny (model prog w) A (eval (.Name f p) ε) (fun f s₁ => wpAny (model prog w) A (callWith pos f [] (backTo pos (starEach args ε)) []) Q E s₁) E s) :
    wpAny (model prog w) A (eval (.Call (.Name f p) args [] pos) ε) Q E s := wpAny_Call_NameR h

theorem callX_cases {f : Str} {l : List Mine.X} (P : Mine.X → Prop) (h1 : ∀ b, isGlob sc f = true → biOf f = some b → P (.bi b l)) (h2 : isGlob sc f = true → f = ("range" : Str) → P (.rng l)) (h3 : isGlob sc f = true → P (.call (tok f) l)) (h4 : P .other) : P (callX sc f l) := by
  unfold callX
  split
  · rename_i hg
    split
    · rename_i b hb; exact h1 b hg hb
    · split
      · rename_i e; exact h2 hg (beq_iff_eq.mp e)
      · exact h3 hg
  · exact h4
end
end Mine

open PySem PySem.W PySem.Spec PySem.Calls PyProof.Rows
set_option Elab.async false
set_option maxRecDepth 100000
set_option linter.unusedVariables false
namespace Mine

section
variable {prog : Program} {w : World} {K : Frag} {hb : Heap} {C : Addr} {bx : Bx} {xc : Prop} {nn : Nat} {Φ : PhiT} {Γ : GamT} {A : Around} {FL : List Addr}
variable {X : Addr → Prop} {s : Shared} {k : Nat} {n m : Nat} {sc : Sc} {ε : Env} {ρ : Rho}

theorem lift_ok {t : Sem Value} {s₀ : Shared} {k₀ k₁ : Nat} {r : Rz D} {E : Value → Shared → Prop} (c₀ : Cx bx hb A FL nn X s₀ k₀) (st : Step bx FL s₀ s k₁) (h : wpAny (model prog w) A t (PQ bx FL X s r) (fun _ _ => False) s) : wpAny (model prog w) A t (PQ bx FL X s₀ r) E s :=
  wpAny_mono h (fun v s' q => q.up st fun _ _ e => e) fun _ _ q => q.elim

theorem slice_eval {lo hi : Option PySem.Expr} {p : Pos} {Q : Value → Shared → Prop} {E : Value → Shared → Prop} {u : PySem.Expr} (hlo : lo = Option.none ∧ hi = some u ∨ lo = some u ∧ hi = Option.none)
    (h : wpAny (model prog w) A (eval u ε) (fun v s₁ => Q (.ref s₁.heap.objs.size) { s₁ with heap := s₁.heap.push { cls := .type "slice", data := .fields (if lo.isSome then #[v, .none, .none] else #[.none, v, .none]) } }) E s) :
    wpAny (model prog w) A (eval (.Slice lo hi Option.none p) ε) Q E s := by
  rw [arm_eval_Slice]
  rcases hlo with ⟨rfl, rfl⟩ | ⟨rfl, rfl⟩
  · refine wpAny_bind (wpAny_pure (wpAny_bind (wpAny_holding (wpAny_mono h (fun v s₁ q => ?_) fun _ _ x => x))))
    refine wpAny_bind (wpAny_holding (wpAny_pure ?_))
    exact wpAny_newObj_type q (by show Array.size _ ≤ _; simp [sizeLine])
  · refine wpAny_bind (wpAny_mono h (fun v s₁ q => ?_) fun _ _ x => x)
    refine wpAny_bind (wpAny_holding (wpAny_pure ?_))
    refine wpAny_bind (wpAny_holding (wpAny_pure ?_))
    exact wpAny_newObj_type q (by show Array.size _ ≤ _; simp [sizeLine])

theorem sv_call (G : Gl prog w K hb C bx xc nn Φ Γ) (HV : SV prog w hb C bx xc nn Φ Γ A FL n) {f : Str} {p pos : Pos} {args : List PySem.Expr} (hp : (args.isEmpty || args.any isStar) = false) (c : Cx bx hb A FL nn X s k) (V : Vw bx FL X ε sc s.heap ρ)
    (hg : (ev Φ Γ (n + 1) .val ρ k (callX sc f (args.map (er m sc)))).good xc) :
    wpAny (model prog w) A (eval (.Call (.Name f p) args [] pos) ε) (PQ bx FL X s (ev Φ Γ (n + 1) .val ρ k (callX sc f (args.map (er m sc))))) (PE C bx FL s (ev Φ Γ (n + 1) .val ρ k (callX sc f (args.map (er m sc))))) s := by
  revert hg
  refine callX_cases (sc := sc) (f := f) (l := args.map (er m sc)) (fun e => (ev Φ Γ (n + 1) .val ρ k e).good xc → wpAny (model prog w) A (eval (.Call (.Name f p) args [] pos) ε) (PQ bx FL X s (ev Φ Γ (n + 1) .val ρ k e)) (PE C bx FL s (ev Φ Γ (n + 1) .val ρ k e)) s) ?_ ?_ ?_ ?_
  · intro b hgl hb' hg
    obtain ⟨e1, e2⟩ := boot_bi hb'
    refine eval_call f p args pos (name_built G c V hgl (G.blt f (.inl (by rw [hb']; rfl))) e1 ?_)
    refine callWith_go (P := fun _ => True) hp (fun h _ => ⟨.machine, .inr (.inl rfl), Looks.of_pure (by cases b <;> rfl)⟩) ?_
    have hg' : ((evL (fun k e => ev Φ Γ n .val ρ k e) (args.map (er m sc)) k).bind fun ds k => biD b ds k).good xc := hg
    refine thenL c c.self (evL_sound HV args s k c V) hg' fun ds k₁ vs s₁ e3 hg1 st₁ r₁ => ⟨trivial, ?_⟩
    have e4 : ev Φ Γ (n + 1) .val ρ k (.bi b (args.map (er m sc))) = biD b ds k₁ := ok_bind e3
    rw [e4]
    exact lift_ok c st₁ (biD_sound (c.step st₁) r₁ (good_ne hg1))
  · intro _ _ hg; exact hg.elim
  · intro hgl hg
    cases hΦ : Φ (tok f) with
    | none =>
      have : ev Φ Γ (n + 1) .val ρ k (.call (tok f) (args.map (er m sc))) = .stuck := by show (match Φ (tok f) with | some φ => _ | Option.none => _) = _; rw [hΦ]
      rw [this] at hg; exact hg.elim
    | some φ =>
      have e0 : ev Φ Γ (n + 1) .val ρ k (.call (tok f) (args.map (er m sc))) = (evL (fun k e => ev Φ Γ n .val ρ k e) (args.map (er m sc)) k).bind fun ds k => φ k ds := by show (match Φ (tok f) with | some φ => _ | Option.none => _) = _; rw [hΦ]
      rw [e0] at hg ⊢
      obtain ⟨a, e1, e2, con⟩ := G.phi f φ hΦ
      refine eval_call f p args pos (name_glob G c V hgl e1 ?_)
      refine callWith_go (P := K.In) hp (keeps_K e2) ?_
      refine thenL c c.self (evL_sound HV args s k c V) hg fun ds k₁ vs s₁ e3 hg1 st₁ r₁ => ?_
      have c₁ := c.step st₁
      refine ⟨G.kin.keeps c₁.wd.base, ?_⟩
      rw [ok_bind e3]
      exact lastV c st₁ rfl (con A FL X s₁ vs ds k₁ c₁.act c₁.wd c₁.fl r₁) hg1
  · intro hg; exact hg.elim

theorem si_range (G : Gl prog w K hb C bx xc nn Φ Γ) (HV : SV prog w hb C bx xc nn Φ Γ A FL n) {f : Str} {p pos : Pos} {args : List PySem.Expr} (hp : (args.isEmpty || args.any isStar) = false) (c : Cx bx hb A FL nn X s k) (V : Vw bx FL X ε sc s.heap ρ) (hgl : isGlob sc f = true) (hf : f = ("range" : Str))
    (hg : (ev Φ Γ (n + 1) .iter ρ k (.rng (args.map (er m sc)))).good xc) :
    wpAny (model prog w) A (eval (.Call (.Name f p) args [] pos) ε) (fun xv s₁ => wpAny (model prog w) A (pyIter xv) (IQ prog w bx A FL X s (ev Φ Γ (n + 1) .iter ρ k (.rng (args.map (er m sc))))) (PE C bx FL s (ev Φ Γ (n + 1) .iter ρ k (.rng (args.map (er m sc))))) s₁) (PE C bx FL s (ev Φ Γ (n + 1) .iter ρ k (.rng (args.map (er m sc))))) s := by
  subst hf
  have hg' : ((evL (fun k e => ev Φ Γ n .val ρ k e) (args.map (er m sc)) k).bind rngD).good xc := hg
  show wpAny _ _ _ (fun xv s₁ => wpAny (model prog w) A (pyIter xv) (IQ prog w bx A FL X s ((evL (fun k e => ev Φ Γ n .val ρ k e) (args.map (er m sc)) k).bind rngD)) (PE C bx FL s ((evL (fun k e => ev Φ Γ n .val ρ k e) (args.map (er m sc)) k).bind rngD)) s₁) (PE C bx FL s ((evL (fun k e => ev Φ Γ n .val ρ k e) (args.map (er m sc)) k).bind rngD)) s
  refine eval_call _ p args pos (name_built G c V hgl (G.blt _ (.inr rfl)) boot_range ?_)
  refine callWith_go (P := fun _ => True) hp (fun h _ => ⟨.machine, .inr (.inl rfl), Looks.of_pure rfl⟩) ?_
  refine thenL c c.self (evL_sound HV args s k c V) hg' fun ds k₁ vs s₁ e3 hg1 st₁ r₁ => ⟨trivial, ?_⟩
  rw [ok_bind e3]
  refine wpAny_mono (range_sound (E := fun _ _ => False) (c.step st₁) r₁ (good_ne hg1)) (fun xv s₂ h₂ => wpAny_mono h₂ (fun v s' h => h.up c st₁ fun _ _ e => e) fun _ _ h => h.elim) fun _ _ h => h.elim

/-- an item of a value, or of a list of the frame's own -/
theorem sv_idx (HV : SV prog w hb C bx xc nn Φ Γ A FL n) {v i : PySem.Expr} {pos : Pos} (hi : ∀ a b d p, i ≠ .Slice a b d p) (c : Cx bx hb A FL nn X s k) (V : Vw bx FL X ε sc s.heap ρ)
    (hg : (ev Φ Γ (n + 1) .val ρ k (.idx (er m sc v) (er m sc i))).good xc) :
    wpAny (model prog w) A (eval (.Subscript v i pos) ε) (PQ bx FL X s (ev Φ Γ (n + 1) .val ρ k (.idx (er m sc v) (er m sc i)))) (PE C bx FL s (ev Φ Γ (n + 1) .val ρ k (.idx (er m sc v) (er m sc i)))) s := by
  have gen : ∀ r : Rz D, r = ((ev Φ Γ n .val ρ k (er m sc v)).bind fun x k => (ev Φ Γ n .val ρ k (er m sc i)).bind fun j k => idxD x j k) → r.good xc →
      wpAny (model prog w) A (eval (.Subscript v i pos) ε) (PQ bx FL X s r) (PE C bx FL s r) s := by
    intro r e hg
    subst e
    refine Subscript_ (thenV c c.self (HV m sc ε ρ v X s k c V) hg fun x k₁ xv s₁ e1 hg1 st₁ r₁ => ?_)
    have c₁ := c.step st₁
    rw [ok_bind e1]
    refine thenV c st₁ (HV m sc ε ρ i X s₁ k₁ c₁ (V.step c st₁)) hg1 fun j k₂ jv s₂ e2 hg2 st₂ r₂ => ?_
    rw [ok_bind e2]
    exact lift_ok c (st₁.trans st₂) (idxD_sound (c₁.step st₂) hi (r₁.ext c₁.wd st₂.ext) r₂ (good_ne hg2))
  have hx : ∀ e : Mine.X, (∀ x, e ≠ .var x) → ev Φ Γ (n + 1) .val ρ k (.idx e (er m sc i)) = ((ev Φ Γ n .val ρ k e).bind fun x k => (ev Φ Γ n .val ρ k (er m sc i)).bind fun j k => idxD x j k) := by
    intro e he
    cases e with
    | var x => exact absurd rfl (he x)
    | _ => rfl
  by_cases hv : ∃ x, er m sc v = .var x
  · obtain ⟨x, ex⟩ := hv
    cases hq : ρ.lookup x with
    | none =>
      have e : ev Φ Γ (n + 1) .val ρ k (.idx (er m sc v) (er m sc i)) = ((ev Φ Γ n .val ρ k (er m sc v)).bind fun x k => (ev Φ Γ n .val ρ k (er m sc i)).bind fun j k => idxD x j k) := by
        rw [ex]; show (match List.lookup x ρ with | some (.own l) => _ | _ => _) = _; rw [hq]
      exact gen _ e hg
    | some q =>
      cases q with
      | val d =>
        have e : ev Φ Γ (n + 1) .val ρ k (.idx (er m sc v) (er m sc i)) = ((ev Φ Γ n .val ρ k (er m sc v)).bind fun x k => (ev Φ Γ n .val ρ k (er m sc i)).bind fun j k => idxD x j k) := by
          rw [ex]; show (match List.lookup x ρ with | some (.own l) => _ | _ => _) = _; rw [hq]
        exact gen _ e hg
      | own l =>
        have e : ev Φ Γ (n + 1) .val ρ k (.idx (er m sc v) (er m sc i)) = ((ev Φ Γ n .val ρ k (er m sc i)).bind fun j k => idxD (.list l) j k) := by
          rw [ex]; show (match List.lookup x ρ with | some (.own l) => _ | _ => _) = _; rw [hq]
        -- the base is a name
        have hvx : ∃ y p, v = .Name y p ∧ vis sc y = true ∧ tok y = x := by
          cases m with
          | zero => cases ex
          | succ m =>
            have I := er_inv m sc v
            rw [ex] at I
            generalize hgx : Mine.X.var x = xx at I
            cases I with
            | name y p =>
              unfold nameX at hgx
              split at hgx
              · rename_i hv; cases hgx; exact ⟨_, _, rfl, hv, rfl⟩
              · split at hgx <;> cases hgx
            | call y p args q h => exact absurd hgx.symm (callX_cases (fun e => e ≠ .var x) (fun _ _ _ => nofun) (fun _ _ => nofun) (fun _ => nofun) nofun)
            | _ => cases hgx
        obtain ⟨y, p, rfl, hvis, rfl⟩ := hvx
        obtain ⟨a, vs, nl, H, nf, nb, ga, ra⟩ := V.owns y l hvis hq
        rw [e] at hg ⊢
        refine Subscript_ (name_var V hvis H ?_)
        refine thenV c c.self (HV m sc ε ρ i X s k c V) hg fun j k₂ jv s₂ e2 hg2 st₂ r₂ => ?_
        rw [ok_bind e2]
        exact lift_ok c st₂ (idxO_sound (c.step st₂) hi (st₂.ext.keep a _ ga nf nb) (ra.ext c.wd st₂.ext) r₂ (good_ne hg2))
  · exact gen _ (hx _ fun x ex => hv ⟨x, ex⟩) hg

theorem sv_slice (HV : SV prog w hb C bx xc nn Φ Γ A FL n) {v u : PySem.Expr} {lo hi : Option PySem.Expr} {p pos : Pos} {F : D → D → Nat → Rz D} (hlo : lo = Option.none ∧ hi = some u ∨ lo = some u ∧ hi = Option.none)
    (hF : ∀ {s : Shared} {k : Nat} {va vi : Value} {a i : D}, Cx bx hb A FL nn X s k → Rep bx X s.heap va a → Rep bx X s.heap vi i → F a i k ≠ .stuck →
      wpAny (model prog w) A (subscriptTail v (.Slice lo hi Option.none p) va (.ref s.heap.objs.size)) (PQ bx FL X s (F a i k)) (fun _ _ => False) { s with heap := s.heap.push { cls := .type "slice", data := .fields (if lo.isSome then #[vi, .none, .none] else #[.none, vi, .none]) } })
    (c : Cx bx hb A FL nn X s k) (V : Vw bx FL X ε sc s.heap ρ) {r : Rz D} (hr : r = (ev Φ Γ n .val ρ k (er m sc v)).bind fun x k => (ev Φ Γ n .val ρ k (er m sc u)).bind fun j k => F x j k) (hg : r.good xc) :
    wpAny (model prog w) A (eval (.Subscript v (.Slice lo hi Option.none p) pos) ε) (PQ bx FL X s r) (PE C bx FL s r) s := by
  subst hr
  refine Subscript_ (thenV c c.self (HV m sc ε ρ v X s k c V) hg fun x k₁ xv s₁ e1 hg1 st₁ r₁ => slice_eval hlo ?_)
  have c₁ := c.step st₁
  rw [ok_bind e1]
  refine thenV c st₁ (HV m sc ε ρ u X s₁ k₁ c₁ (V.step c st₁)) hg1 fun j k₂ jv s₂ e2 hg2 st₂ r₂ => ?_
  rw [ok_bind e2]
  exact wpAny_mono (hF (c₁.step st₂) (r₁.ext c₁.wd st₂.ext) r₂ (good_ne hg2)) (fun v s' q => q.up (st₁.trans st₂) fun _ _ e => e) fun _ _ q => q.elim
theorem sv_upto (HV : SV prog w hb C bx xc nn Φ Γ A FL n) {v u : PySem.Expr} {p pos : Pos} (c : Cx bx hb A FL nn X s k) (V : Vw bx FL X ε sc s.heap ρ) (hg : (ev Φ Γ (n + 1) .val ρ k (.upto (er m sc v) (er m sc u))).good xc) :
    wpAny (model prog w) A (eval (.Subscript v (.Slice Option.none (some u) Option.none p) pos) ε) (PQ bx FL X s (ev Φ Γ (n + 1) .val ρ k (.upto (er m sc v) (er m sc u)))) (PE C bx FL s (ev Φ Γ (n + 1) .val ρ k (.upto (er m sc v) (er m sc u)))) s :=
  sv_slice HV (F := uptoD) (.inl ⟨rfl, rfl⟩) (fun c ra ri hr => uptoD_sound c ra ri hr) c V rfl hg
theorem sv_from (HV : SV prog w hb C bx xc nn Φ Γ A FL n) {v u : PySem.Expr} {p pos : Pos} (c : Cx bx hb A FL nn X s k) (V : Vw bx FL X ε sc s.heap ρ) (hg : (ev Φ Γ (n + 1) .val ρ k (.from_ (er m sc v) (er m sc u))).good xc) :
    wpAny (model prog w) A (eval (.Subscript v (.Slice (some u) Option.none Option.none p) pos) ε) (PQ bx FL X s (ev Φ Γ (n + 1) .val ρ k (.from_ (er m sc v) (er m sc u)))) (PE C bx FL s (ev Φ Γ (n + 1) .val ρ k (.from_ (er m sc v) (er m sc u)))) s :=
  sv_slice HV (F := fromD) (.inr ⟨rfl, rfl⟩) (fun c ra ri hr => fromD_sound c ra ri hr) c V rfl hg

noncomputable def spE : PySem.Expr → Bool
  | .UnaryOp .Not _ _ => true
  | .BoolOp _ _ _ => true
  | .IfExp _ _ _ _ => true
  | _ => false
noncomputable def isCall : PySem.Expr → Bool
  | .Call _ _ _ _ => true
  | _ => false

theorem nameX_cases {x : Str} (P : Mine.X → Prop) (h1 : ∀ x, P (.var x)) (h2 : ∀ x, P (.glob x)) (h3 : P .other) : P (nameX sc x) := by
  unfold nameX
  split
  · exact h1 _
  · split
    · exact h2 _
    · exact h3

theorem er_spT {e : PySem.Expr} (h : spE e = false) : spT (er m sc e) = false := by
  cases m with
  | zero => rfl
  | succ m =>
    have I := er_inv m sc e
    generalize er (m + 1) sc e = x at I ⊢
    cases I with
    | name x p => exact nameX_cases (fun e => spT e = false) (fun _ => rfl) (fun _ => rfl) rfl
    | call x p args q h => exact callX_cases (fun e => spT e = false) (fun _ _ _ => rfl) (fun _ _ => rfl) (fun _ => rfl) rfl
    | _ => first | rfl | cases h
theorem er_spI {e : PySem.Expr} (h : isCall e = false) : spI (er m sc e) = false := by
  cases m with
  | zero => rfl
  | succ m =>
    have I := er_inv m sc e
    generalize er (m + 1) sc e = x at I ⊢
    cases I with
    | name x p => exact nameX_cases (fun e => spI e = false) (fun _ => rfl) (fun _ => rfl) rfl
    | _ => first | rfl | cases h

theorem ev_sound (G : Gl prog w K hb C bx xc nn Φ Γ) (pl : xc → PlComp prog w C bx hb) : ∀ n, SV prog w hb C bx xc nn Φ Γ A FL n ∧ ST prog w hb C bx xc nn Φ Γ A FL n ∧ SI prog w hb C bx xc nn Φ Γ A FL n := by
  intro n
  induction n with
  | zero => exact ⟨fun m sc ε ρ e X s k c V hg => hg.elim, fun m sc ε ρ e X s k c V hg => hg.elim, fun m sc ε ρ e X s k c V hg => hg.elim⟩
  | succ n ih =>
    obtain ⟨HV, HT, HI⟩ := ih
    have HV' : SV prog w hb C bx xc nn Φ Γ A FL (n + 1) := by
      intro m sc ε ρ e X s k c V hg
      cases m with
      | zero => exact hg.elim
      | succ m =>
        have I := er_inv m sc e
        generalize er (m + 1) sc e = x at I hg ⊢
        cases I with
        | int => exact wpAny_Constant_int ⟨_, _, rfl, c.toks _, .int _ _⟩
        | str => exact (fun _ _ _ => ⟨_, _, rfl, c.toks _, .str _ _⟩)
        | none => exact (fun _ _ _ => ⟨_, _, rfl, c.self, .none⟩)
        | bool => exact (fun _ _ _ => ⟨_, _, rfl, c.self, .bool _⟩)
        | name x p =>
          unfold nameX at hg ⊢
          split at hg
          · rename_i hv
            rw [if_pos hv]
            cases hq : ρ.lookup (tok x) with
            | none =>
              have e : ev Φ Γ (n + 1) .val ρ k (.var (tok x)) = .stuck := by show (match List.lookup (tok x) ρ with | some (.val d) => _ | _ => _) = _; rw [hq]
              rw [e] at hg; exact hg.elim
            | some q =>
              cases q with
              | val d =>
                have e : ev Φ Γ (n + 1) .val ρ k (.var (tok x)) = .ok d k := by show (match List.lookup (tok x) ρ with | some (.val d) => _ | _ => _) = _; rw [hq]
                obtain ⟨v, H, r⟩ := V.vars x d hv hq
                rw [e]
                exact name_var V hv H ⟨_, _, rfl, c.self, r⟩
              | own l =>
                have e : ev Φ Γ (n + 1) .val ρ k (.var (tok x)) = .stuck := by show (match List.lookup (tok x) ρ with | some (.val d) => _ | _ => _) = _; rw [hq]
                rw [e] at hg; exact hg.elim
          · rename_i hv
            rw [if_neg hv]
            split at hg
            · rename_i hgl
              rw [if_pos hgl]
              cases hq : Γ (tok x) with
              | none =>
                have e : ev Φ Γ (n + 1) .val ρ k (.glob (tok x)) = .stuck := by show (match Γ (tok x) with | some d => _ | Option.none => _) = _; rw [hq]
                rw [e] at hg; exact hg.elim
              | some d =>
                have e : ev Φ Γ (n + 1) .val ρ k (.glob (tok x)) = .ok d k := by show (match Γ (tok x) with | some d => _ | Option.none => _) = _; rw [hq]
                obtain ⟨v, e1, r⟩ := G.gam x d hq
                rw [e]
                exact name_glob G c V hgl e1 ⟨_, _, rfl, c.self, r X s.heap (fun a xa => (c.wd.xok a xa).1) c.wd.base⟩
            · exact hg.elim
        | bin l o r p =>
          refine wpAny_BinOp (thenV c c.self (HV m sc ε ρ l X s k c V) hg fun x k₁ xv s₁ e1 hg1 st₁ r₁ => ?_)
          have c₁ := c.step st₁
          rw [ev_bin, ok_bind e1]
          refine thenV c st₁ (HV m sc ε ρ r X s₁ k₁ c₁ (V.step c st₁)) hg1 fun y k₂ yv s₂ e2 hg2 st₂ r₂ => ?_
          rw [ok_bind e2]
          exact lift_ok c (st₁.trans st₂) (binD_sound (c₁.step st₂) (r₁.ext c₁.wd st₂.ext) r₂ (good_ne hg2))
        | neg a p =>
          show wpAny _ _ (do let v ← eval a ε; standAt p; holding [v] (unaryOp .USub v)) _ _ _
          refine wpAny_bind (thenV c c.self (HV m sc ε ρ a X s k c V) hg fun x k₁ xv s₁ e1 hg1 st₁ r₁ => wpAny_bind (wpAny_standAt (wpAny_holding ?_)))
          rw [ev_neg, ok_bind e1]
          cases r₁ with
          | int i t => exact neg_int ⟨_, _, rfl, st₁.trans ((c.step st₁).toks _), .int _ _⟩
          | none => exact hg1.elim
          | bool => exact hg1.elim
          | str => exact hg1.elim
          | tup => exact hg1.elim
          | lst => exact hg1.elim
          | box => exact hg1.elim
        | not => exact hg.elim
        | cmp l o r p hns =>
          have hm : behindInMarks o r = false := marked_pure fun elts k' p' q => by subst q; cases hns
          refine wpAny_Compare1 (thenV c c.self (HV m sc ε ρ l X s k c V) hg fun x k₁ xv s₁ e1 hg1 st₁ r₁ => ?_) hm
          have c₁ := c.step st₁
          rw [ev_cmp, ok_bind e1]
          refine thenV c st₁ (HV m sc ε ρ r X s₁ k₁ c₁ (V.step c st₁)) hg1 fun y k₂ yv s₂ e2 hg2 st₂ r₂ => ?_
          rw [ok_bind e2]
          exact lift_ok c (st₁.trans st₂) (cmpD_sound (c₁.step st₂) (r₁.ext c₁.wd st₂.ext) r₂ (good_ne hg2))
        | band => exact andV_sound HV _ s k c V hg
        | bor => exact orV_sound HV _ s k c V hg
        | ite t a b p =>
          show wpAny _ _ (do if ← isTrue t ε (eval t ε) then eval a ε else eval b ε) _ _ _
          refine wpAny_bind (thenB c c.self (HT m sc ε ρ t X s k c V) hg fun q k₁ s₁ e1 hg1 st₁ => ?_)
          rw [ev_ite, ok_bind e1]
          have c₁ := c.step st₁
          cases q with
          | true => exact lastV c st₁ rfl (HV m sc ε ρ a X s₁ k₁ c₁ (V.step c st₁)) hg1
          | false => exact lastV c st₁ rfl (HV m sc ε ρ b X s₁ k₁ c₁ (V.step c st₁)) hg1
        | upto => exact sv_upto HV c V hg
        | from_ => exact sv_from HV c V hg
        | idx v i p h => exact sv_idx HV h c V hg
        | call f p args pos hp => exact sv_call G HV hp c V hg
        | tup es q p =>
          refine Tuple_ (thenL c c.self (evL_sound HV es s k c V) hg fun ds k₁ vs s₁ e1 hg1 st₁ r₁ => ?_)
          have e0 : ev Φ Γ (n + 1) .val ρ k (.tup (es.map (er m sc))) = if ds.length ≤ 1000 then .ok (.tuple ds) k₁ else .stuck := ok_bind e1
          rw [e0]
          split at hg1
          · rename_i hl
            rw [if_pos hl]
            exact lift_ok c st₁ (tupL (c.step st₁) r₁ hl)
          · exact hg1.elim
        | lst es p =>
          refine List_ (thenL c c.self (evL_sound HV es s k c V) hg fun ds k₁ vs s₁ e1 hg1 st₁ r₁ => ?_)
          have e0 : ev Φ Γ (n + 1) .val ρ k (.lst (es.map (er m sc))) = if ds.length ≤ 1000 then .ok (.list ds) k₁ else .stuck := ok_bind e1
          rw [e0]
          split at hg1
          · rename_i hl
            rw [if_pos hl]
            exact lift_ok c st₁ (lstL (c.step st₁) r₁ hl)
          · exact hg1.elim
        | comp a x px it scope p hO =>
          have O := CompOk.of hO
          rw [eval_ListComp]
          refine comp_sound pl HI HV c V O (fun elts k' p' q => ?_) rfl hg (use := none) ?_
          · subst q
            have hg' : ((ev Φ Γ n .iter ρ k (er m sc (.Set elts k' p'))).bind fun d k => match d with
              | .list items => (evM (fun d k => ev Φ Γ n .val ((tok x, .val d) :: ρ) k (er m scope.names a)) items k).bind fun ys k => (Rz.ok (PyData.list ys) k : Rz D)
              | _ => .stuck).good xc := hg
            rw [er_set] at hg'
            exact not_other (Rz.good_bind hg')
          · intro D ys k' C' s' e1 st' rp hD hn hC₀ hD₀ hCD nXD
            obtain ⟨nD, vs, gD, rD⟩ := hD
            obtain ⟨m', hm'⟩ := hn
            refine ⟨m', hm', fun h' hs => ?_⟩
            have g : ∀ b o, b ≠ C' → s'.heap.get? b = some o → h'.get? b = some o := fun b o nb e => hs.extBut b o nb e
            obtain ⟨h1, tk1, rfl, e2, b2⟩ := st'
            have st'' : Step bx FL s { s with heap := h', toks := tk1 } k' := Step.fresh c ⟨h1, tk1, rfl, e2, b2⟩ fun b o l e => g b o (fun z => by obtain ⟨o', l⟩ := l; rw [z, hC₀] at l; cases l) e
            exact ⟨_, _, e1, st'', .lst nXD (g _ _ (Ne.symm hCD) gD) (rD.map (fun a' o q e => ⟨fun z => q (.inl z), g a' o (fun z => q (.inr (.inr z))) e⟩) fun _ _ z => z)⟩
        | other => exact hg.elim
    have HT' : ST prog w hb C bx xc nn Φ Γ A FL (n + 1) := by
      intro m sc ε ρ e X s k c V hg
      have pt : spE e = false → isTrue e ε (eval e ε) = (do let v ← eval e ε; standAt e.pos; holding [v] (truthy v)) →
          wpAny (model prog w) A (isTrue e ε (eval e ε)) (PQB bx FL s (ev Φ Γ (n + 1) .test ρ k (er m sc e))) (PE C bx FL s (ev Φ Γ (n + 1) .test ρ k (er m sc e))) s :=
        fun h1 h2 => plain_test HV c V h2 (evT_plain (er_spT h1)) hg
      cases e with
      | UnaryOp op a p =>
        cases op with
        | Not =>
          cases m with
          | zero => exact (not_other hg).elim
          | succ m =>
            have hg' : ((ev Φ Γ n .test ρ k (er m sc a)).bind fun d k => match d with
              | .bool b => (Rz.ok (PyData.bool (!b)) k : Rz D)
              | _ => .stuck).good xc := hg
            show wpAny _ _ (do return !(← isTrue a ε (eval a ε))) _ _ _
            refine wpAny_bind (thenB c c.self (HT m sc ε ρ a X s k c V) hg' fun b k₁ s₁ e1 hg1 st₁ => wpAny_pure ?_)
            exact ⟨k₁, ok_bind e1, st₁⟩
        | USub => exact pt rfl rfl
        | UAdd => exact pt rfl rfl
        | Invert => exact pt rfl rfl
      | BoolOp op l p =>
        cases m with
        | zero => exact (not_other hg).elim
        | succ m =>
          cases op with
          | And => exact andT_sound HT l s k c V hg
          | Or => exact orT_sound HT l s k c V hg
      | IfExp t a b p =>
        cases m with
        | zero => exact (not_other hg).elim
        | succ m =>
          have hg' : ((ev Φ Γ n .test ρ k (er m sc t)).bind fun d k => match d with
            | .bool true => ev Φ Γ n .test ρ k (er m sc a)
            | .bool false => ev Φ Γ n .test ρ k (er m sc b)
            | _ => .stuck).good xc := hg
          show wpAny _ _ (do if ← isTrue t ε (eval t ε) then isTrue a ε (eval a ε) else isTrue b ε (eval b ε)) _ _ _
          refine wpAny_bind (thenB c c.self (HT m sc ε ρ t X s k c V) hg' fun q k₁ s₁ e1 hg1 st₁ => ?_)
          have c₁ := c.step st₁
          cases q with
          | true => exact lastB c st₁ (ok_bind e1) (HT m sc ε ρ a X s₁ k₁ c₁ (V.step c st₁)) hg1
          | false => exact lastB c st₁ (ok_bind e1) (HT m sc ε ρ b X s₁ k₁ c₁ (V.step c st₁)) hg1
      | Compare l ops rs p =>
        cases ops with
        | nil => cases m with
            | zero => exact (not_other hg).elim
            | succ m => exact (not_other hg).elim
        | cons o ops' =>
          cases ops' with
          | cons _ _ => cases m with
            | zero => exact (not_other hg).elim
            | succ m => exact (not_other hg).elim
          | nil =>
            cases rs with
            | nil => cases m with
              | zero => exact (not_other hg).elim
              | succ m => exact (not_other hg).elim
            | cons r rs' =>
              cases rs' with
              | cons _ _ => cases m with
                | zero => exact (not_other hg).elim
                | succ m => exact (not_other hg).elim
              | nil =>
                have e0 : isTrue (.Compare l [o] [r] p) ε (eval (.Compare l [o] [r] p) ε) = (do let c ← eval (.Compare l [o] [r] p) ε; holding [c] (truthy c)) := by
                  rw [isTrue_Compare1, eval_Compare1]
                  simp only [bind_assoc]
                have e1 : ev Φ Γ (n + 1) .test ρ k (er m sc (.Compare l [o] [r] p)) = (ev Φ Γ n .val ρ k (er m sc (.Compare l [o] [r] p))).bind truD := evT_plain (er_spT rfl)
                rw [e1] at hg ⊢
                rw [e0]
                refine wpAny_bind (thenV c c.self (HV m sc ε ρ _ X s k c V) hg fun d k₁ v s₁ e1 hg1 st₁ r₁ => wpAny_holding ?_)
                rw [ok_bind e1]
                cases r₁ with
                | bool b => exact tru_bool ⟨_, rfl, st₁⟩
                | none => exact hg1.elim
                | int => exact hg1.elim
                | str => exact hg1.elim
                | tup => exact hg1.elim
                | lst => exact hg1.elim
                | box => exact hg1.elim
      | Constant => exact pt rfl rfl
      | Name => exact pt rfl rfl
      | NamedExpr => exact pt rfl rfl
      | BinOp => exact pt rfl rfl
      | Lambda => exact pt rfl rfl
      | Dict => exact pt rfl rfl
      | Set => exact pt rfl rfl
      | ListComp => exact pt rfl rfl
      | SetComp => exact pt rfl rfl
      | DictComp => exact pt rfl rfl
      | GeneratorExp => exact pt rfl rfl
      | Await => exact pt rfl rfl
      | Yield => exact pt rfl rfl
      | YieldFrom => exact pt rfl rfl
      | Call => exact pt rfl rfl
      | FormattedValue => exact pt rfl rfl
      | JoinedStr => exact pt rfl rfl
      | Attribute => exact pt rfl rfl
      | Subscript => exact pt rfl rfl
      | Starred => exact pt rfl rfl
      | List => exact pt rfl rfl
      | Tuple => exact pt rfl rfl
      | Slice => exact pt rfl rfl
    have HI' : SI prog w hb C bx xc nn Φ Γ A FL (n + 1) := by
      intro m sc ε ρ e X s k c V hg
      by_cases hc : isCall e = true
      · cases e with
        | Call f args kws p =>
          cases m with
          | zero => exact (not_other hg).elim
          | succ m =>
            by_cases hsi : spI (er (m + 1) sc (.Call f args kws p)) = false
            · exact plain_iter HV c V (evI_plain hsi) hg
            · cases f with
              | Name f' p' =>
                cases kws with
                | cons _ _ => exact absurd rfl hsi
                | nil =>
                  have e0 : er (m + 1) sc (.Call (.Name f' p') args [] p) = if args.isEmpty || args.any isStar then .other else callX sc f' (args.map (er m sc)) := rfl
                  rw [e0] at hg hsi ⊢
                  revert hg hsi
                  split
                  · intro _ h; exact absurd rfl h
                  · rename_i hp
                    refine callX_cases (sc := sc) (f := f') (l := args.map (er m sc)) (fun e => (ev Φ Γ (n + 1) .iter ρ k e).good xc → ¬ spI e = false → wpAny (model prog w) A (eval (.Call (.Name f' p') args [] p) ε) (fun xv s₁ => wpAny (model prog w) A (pyIter xv) (IQ prog w bx A FL X s (ev Φ Γ (n + 1) .iter ρ k e)) (PE C bx FL s (ev Φ Γ (n + 1) .iter ρ k e)) s₁) (PE C bx FL s (ev Φ Γ (n + 1) .iter ρ k e)) s) ?_ ?_ ?_ ?_
                    · intro _ _ _ _ h; exact absurd rfl h
                    · intro hgl hf hg _; exact si_range G HV (by simpa using hp) c V hgl hf hg
                    · intro _ _ h; exact absurd rfl h
                    · intro _ h; exact absurd rfl h
              | _ => exact absurd rfl hsi
        | _ => cases hc
      · exact plain_iter HV c V (evI_plain (er_spI (by simpa using hc))) hg
    exact ⟨HV', HT', HI'⟩
end
end Mine

open PySem PySem.W PySem.Spec PySem.Calls PyProof.Rows
set_option Elab.async false
set_option maxRecDepth 100000
set_option linter.unusedVariables false
namespace Mine

/-- a handler: `if e.kind != c: raise e`, or `return e.kind` -/
inductive Hs where
  | unless (c : Str)
  | kind
  | other

/-- statements without positions -/
inductive S where
  | ret (e : X)
  | newL (x : Nat)
  | newL2 (x y : Nat)
  | assign (x : Nat) (e : X)
  | newC (x : Nat) (e : X)
  | mass (xs : List Nat) (e : X)
  | seti (x : Nat) (i e : X)
  | app (x : Nat) (e : X)
  | ite (c : X) (a b : List S)
  | whl (c : X) (b : List S)
  | fo (x : Nat) (it : X) (b : List S)
  | rai (kd tx : X)
  | try_ (b : List S) (x : Nat) (h : Hs)
  | eval (e : X)
  | other

noncomputable def lcl (sc : Sc) (x : Str) : Bool := x != (".0" : Str) && x != ("__debug__" : Str) && (sc.lookup x == some .local || sc.lookup x == some .cell)

noncomputable def tsNames (sc : Sc) : List PySem.Expr → Option (List Str)
  | [] => some []
  | .Name x _ :: r => if lcl sc x then (tsNames sc r).map (x :: ·) else none
  | _ :: _ => none

noncomputable def nodupB : List Str → Bool
  | [] => true
  | x :: r => !r.contains x && nodupB r

noncomputable def constOk : PySem.Expr → Bool
  | .Tuple vs _ _ => !(vs.all (constantsAlone 8)) || vs.all (foldedForSure 8)
  | _ => true

noncomputable def nilE : PySem.Expr → Bool
  | .List es _ => es.isEmpty
  | _ => false
noncomputable def nil2E : PySem.Expr → Bool
  | .Tuple es _ _ => es.length == 2 && es.all nilE
  | _ => false
noncomputable def two? : List Str → Option (Str × Str)
  | [x, y] => some (x, y)
  | _ => none
/-- the one name that is given a list that a def has just made, and is stored into -/
noncomputable def isSq (x : Str) (e : PySem.Expr) : Bool := x == ("square" : Str) && (match e with
  | .Call g _ _ _ => (match g with
    | .Name f _ => f == ("smul" : Str)
    | _ => false)
  | _ => false)
noncomputable def erA (sc : Sc) (f : PySem.Expr → X) (t e : PySem.Expr) : S := match t with
  | .Name x _ => if lcl sc x then (if nilE e then .newL (tok x) else if isSq x e then .newC (tok x) (f e) else .assign (tok x) (f e)) else .other
  | .Tuple ts _ _ => (match tsNames sc ts with
    | some xs => if nodupB xs then (if nil2E e then (match two? xs with
        | some p => .newL2 (tok p.1) (tok p.2)
        | none => .other) else if constOk e then .mass (xs.map tok) (f e) else .other) else .other
    | none => .other)
  | .Subscript v i _ => (match v with
    | .Name x _ => if lcl sc x then .seti (tok x) (f i) (f e) else .other
    | _ => .other)
  | _ => .other
noncomputable def isAppend (sc : Sc) (g : PySem.Expr) (cp : Pos) : Option Str := match g with
  | .Attribute v a ap => (match v with
    | .Name x _ => if lcl sc x && a == ("append" : Str) && ap.endLine == cp.line then some x else none
    | _ => none)
  | _ => none
noncomputable def erX (sc : Sc) (f : PySem.Expr → X) (e : PySem.Expr) : S := match e with
  | .Call g args kw cp => if kw.isEmpty then (if isNameE g then .eval (f e) else (match isAppend sc g cp with
      | some x => (match hd1 args with
        | some a => if isStar a then .other else .app (tok x) (f a)
        | none => .other)
      | none => .other)) else .other
  | _ => .other
noncomputable def isFail (sc : Sc) (e : PySem.Expr) : Bool := match e with
  | .Name f _ => isGlob sc f && f == ("CasFail" : Str)
  | _ => false
noncomputable def hd2 {α : Type} : List α → Option (α × α)
  | [a, b] => some (a, b)
  | _ => none
noncomputable def erR (sc : Sc) (f : PySem.Expr → X) (e : PySem.Expr) : S := match e with
  | .Call g args kw _ => if isFail sc g && kw.isEmpty then (match hd2 args with
      | some p => if isStar p.1 || isStar p.2 then .other else .rai (f p.1) (f p.2)
      | none => .other) else .other
  | _ => .other
noncomputable def isKind (x : Str) (e : PySem.Expr) : Bool := match e with
  | .Attribute v a _ => (match v with
    | .Name y _ => y == x && a == ("kind" : Str)
    | _ => false)
  | _ => false
noncomputable def isRe (x : Str) (t : PySem.Stmt) : Bool := match t with
  | .Raise e c _ => (match c with
    | none => (match e with
      | some e => (match e with
        | .Name y _ => y == x
        | _ => false)
      | none => false)
    | some _ => false)
  | _ => false
noncomputable def strE (e : PySem.Expr) : Option Str := match e with
  | .Constant c _ _ => (match c with
    | .str c => some c
    | _ => none)
  | _ => none
noncomputable def isNe (o : Option CmpOp) : Bool := match o with
  | some o => o == .NotEq
  | none => false
noncomputable def neKind (x : Str) (e : PySem.Expr) : Option Str := match e with
  | .Compare l os rs _ => if isKind x l && isNe (hd1 os) then (match hd1 rs with
      | some r => strE r
      | none => none) else none
  | _ => none
noncomputable def re1 (x : Str) (l : List PySem.Stmt) : Bool := match hd1 l with
  | some t => isRe x t
  | none => false
noncomputable def erH (x : Str) (l : List PySem.Stmt) : Hs := match hd1 l with
  | some t => (match t with
    | .Return v _ => (match v with
      | some e => if isKind x e then .kind else .other
      | none => .other)
    | .If c a b _ => if b.isEmpty && re1 x a then (match neKind x c with
        | some c => .unless c
        | none => .other) else .other
    | _ => .other)
  | none => .other
noncomputable def hSplit (h : ExceptHandler) : Option PySem.Expr × Option Str × List PySem.Stmt := match h with
  | .ExceptHandler t x b _ => (t, x, b)
noncomputable def onlyLocal (sc : Sc) (x : Str) : Bool := lcl sc x && sc.lookup x == some .local
noncomputable def erT (sc : Sc) (b : List S) (h : ExceptHandler) : S := match (hSplit h).1 with
  | some t => (match (hSplit h).2.1 with
    | some x => if isFail sc t && onlyLocal sc x then .try_ b (tok x) (erH x (hSplit h).2.2) else .other
    | none => .other)
  | none => .other

noncomputable def erS : Nat → Sc → PySem.Stmt → S
  | 0, _, _ => .other
  | n + 1, sc, st => match st with
    | .Return v _ => (match v with
      | some e => .ret (er n sc e)
      | none => .other)
    | .Assign ts e _ => (match hd1 ts with
      | some t => erA sc (er n sc) t e
      | none => .other)
    | .Expr e _ => erX sc (er n sc) e
    | .If c a b _ => .ite (er n sc c) (a.map (erS n sc)) (b.map (erS n sc))
    | .While c b o _ => if o.isEmpty then .whl (er n sc c) (b.map (erS n sc)) else .other
    | .For t it b o _ => (match t with
      | .Name x _ => if lcl sc x && o.isEmpty then .fo (tok x) (er n sc it) (b.map (erS n sc)) else .other
      | _ => .other)
    | .Raise e c _ => (match c with
      | none => (match e with
        | some e => erR sc (er n sc) e
        | none => .other)
      | some _ => .other)
    | .Try b hs o f _ => if o.isEmpty && f.isEmpty then (match hd1 hs with
      | some h => erT sc (b.map (erS n sc)) h
      | none => .other) else .other
    | _ => .other

/-- the shapes of a handler -/
inductive HsI (x : Str) : List PySem.Stmt → Hs → Prop
  | kind (p ap pos : Pos) : HsI x [.Return (some (.Attribute (.Name x p) "kind" ap)) pos] .kind
  | unless (c : Str) (p ap q cp rp rpos pos : Pos) (k : Nat) : HsI x [.If (.Compare (.Attribute (.Name x p) "kind" ap) [.NotEq] [.Constant (.str c) k q] cp) [.Raise (some (.Name x rp)) none rpos] [] pos] (.unless c)
  | other (l : List PySem.Stmt) : HsI x l .other
/-- which text gives which small statement -/
inductive SI' (n : Nat) (sc : Sc) : PySem.Stmt → S → Prop
  | ret (e : PySem.Expr) (p : Pos) : SI' n sc (.Return (some e) p) (.ret (er n sc e))
  | newL (x : Str) (p p' pos : Pos) (h : lcl sc x = true) : SI' n sc (.Assign [.Name x p] (.List [] p') pos) (.newL (tok x))
  | newC (x f : Str) (p fp cp pos : Pos) (args : List PySem.Expr) (kw : List Keyword) (h : lcl sc x = true) (hf : f = ("smul" : Str)) : SI' n sc (.Assign [.Name x p] (.Call (.Name f fp) args kw cp) pos) (.newC (tok x) (er n sc (.Call (.Name f fp) args kw cp)))
  | assign (x : Str) (p : Pos) (e : PySem.Expr) (pos : Pos) (h : lcl sc x = true) : SI' n sc (.Assign [.Name x p] e pos) (.assign (tok x) (er n sc e))
  | newL2 (x y : Str) (p q a b c pos : Pos) (ts : List PySem.Expr) (j k : Nat) (h : tsNames sc ts = some [x, y]) (nd : nodupB [x, y] = true) : SI' n sc (.Assign [.Tuple ts j p] (.Tuple [.List [] a, .List [] b] k c) pos) (.newL2 (tok x) (tok y))
  | mass (ts : List PySem.Expr) (k : Nat) (p : Pos) (e : PySem.Expr) (pos : Pos) (xs : List Str) (h : tsNames sc ts = some xs) (nd : nodupB xs = true) (hc : constOk e = true) : SI' n sc (.Assign [.Tuple ts k p] e pos) (.mass (xs.map tok) (er n sc e))
  | seti (x : Str) (p q : Pos) (i e : PySem.Expr) (pos : Pos) (h : lcl sc x = true) : SI' n sc (.Assign [.Subscript (.Name x p) i q] e pos) (.seti (tok x) (er n sc i) (er n sc e))
  | app (x : Str) (p ap : Pos) (e : PySem.Expr) (cp pos : Pos) (h : lcl sc x = true) (hp : ap.endLine = cp.line) (hs : isStar e = false) : SI' n sc (.Expr (.Call (.Attribute (.Name x p) "append" ap) [e] [] cp) pos) (.app (tok x) (er n sc e))
  | eval (f : Str) (fp : Pos) (args : List PySem.Expr) (cp pos : Pos) : SI' n sc (.Expr (.Call (.Name f fp) args [] cp) pos) (.eval (er n sc (.Call (.Name f fp) args [] cp)))
  | ite (c : PySem.Expr) (a b : List PySem.Stmt) (p : Pos) : SI' n sc (.If c a b p) (.ite (er n sc c) (a.map (erS n sc)) (b.map (erS n sc)))
  | whl (c : PySem.Expr) (b : List PySem.Stmt) (p : Pos) : SI' n sc (.While c b [] p) (.whl (er n sc c) (b.map (erS n sc)))
  | fo (x : Str) (px : Pos) (it : PySem.Expr) (b : List PySem.Stmt) (p : Pos) (h : lcl sc x = true) : SI' n sc (.For (.Name x px) it b [] p) (.fo (tok x) (er n sc it) (b.map (erS n sc)))
  | rai (f : Str) (fp cp pos : Pos) (a b : PySem.Expr) (hg : isGlob sc f = true) (hf : f = ("CasFail" : Str)) (ha : isStar a = false) (hb : isStar b = false) : SI' n sc (.Raise (some (.Call (.Name f fp) [a, b] [] cp)) none pos) (.rai (er n sc a) (er n sc b))
  | try_ (b : List PySem.Stmt) (f x : Str) (fp p1 p2 : Pos) (l : List PySem.Stmt) (h : Hs) (hg : isGlob sc f = true) (hf : f = ("CasFail" : Str)) (hx : onlyLocal sc x = true) (hi : HsI x l h) : SI' n sc (.Try b [.ExceptHandler (some (.Name f fp)) (some x) l p1] [] [] p2) (.try_ (b.map (erS n sc)) (tok x) h)
  | other (t : PySem.Stmt) : SI' n sc t .other

theorem isFail_of {sc : Sc} {e : PySem.Expr} (h : isFail sc e = true) : ∃ f p, e = .Name f p ∧ isGlob sc f = true ∧ f = ("CasFail" : Str) := by
  cases e with
  | Name f p =>
    have h' : (isGlob sc f && f == ("CasFail" : Str)) = true := h
    simp only [Bool.and_eq_true, beq_iff_eq] at h'
    exact ⟨f, p, rfl, h'.1, h'.2⟩
  | _ => cases h
theorem isKind_of {x : Str} {e : PySem.Expr} (h : isKind x e = true) : ∃ p ap, e = .Attribute (.Name x p) "kind" ap := by
  cases e with
  | Attribute v a ap => cases v with
    | Name y p =>
      have h' : (y == x && a == ("kind" : Str)) = true := h
      simp only [Bool.and_eq_true, beq_iff_eq] at h'
      obtain ⟨rfl, rfl⟩ := h'
      exact ⟨p, ap, rfl⟩
    | _ => cases h
  | _ => cases h
theorem isRe_of {x : Str} {t : PySem.Stmt} (h : isRe x t = true) : ∃ p q, t = .Raise (some (.Name x p)) none q := by
  cases t with
  | Raise e c q => cases c with
    | none => cases e with
      | some e => cases e with
        | Name y p =>
          have h' : (y == x) = true := h
          rw [beq_iff_eq] at h'
          subst h'
          exact ⟨p, q, rfl⟩
        | _ => cases h
      | none => cases h
    | some _ => cases h
  | _ => cases h
theorem strE_of {e : PySem.Expr} {c : Str} (h : strE e = some c) : ∃ k q, e = .Constant (.str c) k q := by
  cases e with
  | Constant v k q => cases v with
    | str v => cases h; exact ⟨k, q, rfl⟩
    | _ => cases h
  | _ => cases h
theorem hd2_of {α : Type} {l : List α} {p : α × α} (h : hd2 l = some p) : l = [p.1, p.2] := by
  match l, h with
  | [a, b], h => cases h; rfl
theorem erH_inv (x : Str) (l : List PySem.Stmt) : HsI x l (erH x l) := by
  unfold erH
  cases hl : hd1 l with
  | none => exact .other _
  | some t =>
    obtain rfl := hd1_of hl
    cases t with
    | Return v p =>
      cases v with
      | none => exact .other _
      | some e =>
        dsimp only
        split
        · rename_i h
          obtain ⟨p, ap, rfl⟩ := isKind_of h
          exact .kind ..
        · exact .other _
    | If c a b p =>
      dsimp only
      split
      · rename_i h
        simp only [Bool.and_eq_true, List.isEmpty_iff] at h
        obtain ⟨rfl, h⟩ := h
        unfold re1 at h
        cases ha : hd1 a with
        | none => rw [ha] at h; cases h
        | some t =>
          rw [ha] at h
          obtain rfl := hd1_of ha
          obtain ⟨rp, rpos, rfl⟩ := isRe_of h
          cases hc : neKind x c with
          | none => exact .other _
          | some cc =>
            cases c with
            | Compare l os rs cp =>
              have hc' : (if isKind x l && isNe (hd1 os) then (match hd1 rs with
                | some r => strE r
                | none => none) else none) = some cc := hc
              split at hc'
              · rename_i hk
                rw [Bool.and_eq_true] at hk
                obtain ⟨p, ap, rfl⟩ := isKind_of hk.1
                unfold isNe at hk
                cases ho : hd1 os with
                | none => rw [ho] at hk; cases hk.2
                | some o =>
                  rw [ho] at hk
                  obtain rfl : o = .NotEq := beq_iff_eq.mp hk.2
                  obtain rfl := hd1_of ho
                  cases hr : hd1 rs with
                  | none => rw [hr] at hc'; cases hc'
                  | some r =>
                    rw [hr] at hc'
                    obtain rfl := hd1_of hr
                    obtain ⟨k, q, rfl⟩ := strE_of hc'
                    exact .unless ..
              · cases hc'
            | _ => cases hc
      · exact .other _
    | _ => exact .other _
theorem two_of {xs : List Str} {p : Str × Str} (h : two? xs = some p) : xs = [p.1, p.2] := by
  match xs, h with
  | [a, b], h => cases h; rfl
theorem nilE_of {e : PySem.Expr} (h : nilE e = true) : ∃ p, e = .List [] p := by
  cases e with
  | List es p => exact ⟨p, by rw [List.isEmpty_iff.mp h]⟩
  | _ => cases h
theorem nil2E_of {e : PySem.Expr} (h : nil2E e = true) : ∃ a b k c, e = .Tuple [.List [] a, .List [] b] k c := by
  cases e with
  | Tuple es k c =>
    have h' : (es.length == 2 && es.all nilE) = true := h
    match es, h' with
    | [x, y], h' =>
      simp only [List.all_cons, List.all_nil, Bool.and_true, Bool.and_eq_true] at h'
      obtain ⟨a, rfl⟩ := nilE_of h'.2.1
      obtain ⟨b, rfl⟩ := nilE_of h'.2.2
      exact ⟨a, b, k, c, rfl⟩
    | [], h' => cases h'
    | [_], h' => cases h'
    | _ :: _ :: _ :: _, h' => simp at h'
  | _ => cases h
theorem isSq_of {x : Str} {e : PySem.Expr} (h : isSq x e = true) : ∃ f fp args kw cp, e = .Call (.Name f fp) args kw cp ∧ f = ("smul" : Str) := by
  cases e with
  | Call g args kw cp => cases g with
    | Name f fp =>
      have h' : (x == ("square" : Str) && f == ("smul" : Str)) = true := h
      simp only [Bool.and_eq_true, beq_iff_eq] at h'
      exact ⟨f, fp, args, kw, cp, rfl, h'.2⟩
    | _ => exact absurd h (by unfold isSq; simp)
  | _ => exact absurd h (by unfold isSq; simp)
theorem erA_inv (n : Nat) (sc : Sc) (t e : PySem.Expr) (pos : Pos) : SI' n sc (.Assign [t] e pos) (erA sc (er n sc) t e) := by
  cases t with
  | Name x p =>
    show SI' n sc _ (if lcl sc x then (if nilE e then S.newL (tok x) else if isSq x e then .newC (tok x) (er n sc e) else .assign (tok x) (er n sc e)) else .other)
    split
    · rename_i hl
      split
      · rename_i h
        obtain ⟨p', rfl⟩ := nilE_of h
        exact .newL x p p' pos hl
      · split
        · rename_i h
          obtain ⟨f, fp, args, kw, cp, rfl, hf⟩ := isSq_of h
          exact .newC x f p fp cp pos args kw hl hf
        · exact .assign x p e pos hl
    · exact .other _
  | Tuple ts k p =>
    show SI' n sc _ (match tsNames sc ts with
      | some xs => if nodupB xs then (if nil2E e then (match two? xs with
          | some p => S.newL2 (tok p.1) (tok p.2)
          | none => .other) else if constOk e then .mass (xs.map tok) (er n sc e) else .other) else .other
      | none => .other)
    cases hx : tsNames sc ts with
    | none => exact .other _
    | some xs =>
      dsimp only
      split
      · rename_i nd
        split
        · rename_i h
          obtain ⟨a, b, k', c, rfl⟩ := nil2E_of h
          cases h2 : two? xs with
          | none => exact .other _
          | some q =>
            obtain rfl := two_of h2
            exact .newL2 _ _ _ p _ _ _ _ ts _ _ hx nd
        · split
          · rename_i hc
            exact .mass ts k p e pos xs hx nd hc
          · exact .other _
      · exact .other _
  | Subscript v i p => cases v with
    | Name x q =>
      show SI' n sc _ (if lcl sc x then S.seti (tok x) (er n sc i) (er n sc e) else .other)
      split
      · rename_i h
        exact .seti x q p i e pos h
      · exact .other _
    | _ => exact .other _
  | _ => exact .other _
theorem erX_inv (n : Nat) (sc : Sc) (e : PySem.Expr) (pos : Pos) : SI' n sc (.Expr e pos) (erX sc (er n sc) e) := by
  cases e with
  | Call g args kw cp =>
    show SI' n sc _ (if kw.isEmpty then (if isNameE g then S.eval (er n sc (.Call g args kw cp)) else (match isAppend sc g cp with
      | some x => (match hd1 args with
        | some a => if isStar a then .other else .app (tok x) (er n sc a)
        | none => .other)
      | none => .other)) else .other)
    split
    · rename_i hk
      obtain rfl := List.isEmpty_iff.mp hk
      split
      · rename_i hn
        cases g with
        | Name f fp => exact .eval f fp args cp pos
        | _ => cases hn
      · cases ha : isAppend sc g cp with
        | none => exact .other _
        | some x =>
          cases h1 : hd1 args with
          | none => exact .other _
          | some a =>
            obtain rfl := hd1_of h1
            dsimp only
            split
            · exact .other _
            · rename_i hs
              cases g with
              | Attribute v b ap => cases v with
                | Name y p =>
                  have ha' : (if lcl sc y && b == ("append" : Str) && ap.endLine == cp.line then some y else none) = some x := ha
                  split at ha'
                  · rename_i hh
                    cases ha'
                    simp only [Bool.and_eq_true, beq_iff_eq] at hh
                    obtain ⟨⟨h1, rfl⟩, h3⟩ := hh
                    exact .app x p ap a cp pos h1 h3 (by simpa using hs)
                  · cases ha'
                | _ => cases ha
              | _ => cases ha
    · exact .other _
  | _ => exact .other _
theorem erS_inv (n : Nat) (sc : Sc) (t : PySem.Stmt) : SI' n sc t (erS (n + 1) sc t) := by
  cases t with
  | Return v p => cases v with
    | some e => exact .ret e p
    | none => exact .other _
  | Assign ts e p =>
    show SI' n sc _ (match hd1 ts with
      | some t => erA sc (er n sc) t e
      | none => .other)
    cases h : hd1 ts with
    | none => exact .other _
    | some t =>
      obtain rfl := hd1_of h
      exact erA_inv n sc t e p
  | Expr e p => exact erX_inv n sc e p
  | If c a b p => exact .ite c a b p
  | While c b o p =>
    show SI' n sc _ (if o.isEmpty then S.whl (er n sc c) (b.map (erS n sc)) else .other)
    split
    · rename_i h
      obtain rfl := List.isEmpty_iff.mp h
      exact .whl c b p
    · exact .other _
  | For t it b o p => cases t with
    | Name x px =>
      show SI' n sc _ (if lcl sc x && o.isEmpty then S.fo (tok x) (er n sc it) (b.map (erS n sc)) else .other)
      split
      · rename_i h
        rw [Bool.and_eq_true, List.isEmpty_iff] at h
        obtain ⟨h, rfl⟩ := h
        exact .fo x px it b p h
      · exact .other _
    | _ => exact .other _
  | Raise e c p => cases c with
    | some _ => exact .other _
    | none => cases e with
      | none => exact .other _
      | some e => cases e with
        | Call g args kw cp =>
          show SI' n sc _ (if isFail sc g && kw.isEmpty then (match hd2 args with
            | some p => if isStar p.1 || isStar p.2 then S.other else .rai (er n sc p.1) (er n sc p.2)
            | none => .other) else .other)
          split
          · rename_i h
            rw [Bool.and_eq_true, List.isEmpty_iff] at h
            obtain ⟨h, rfl⟩ := h
            obtain ⟨f, fp, rfl, hg, hf⟩ := isFail_of h
            cases h2 : hd2 args with
            | none => exact .other _
            | some q =>
              obtain ⟨a, b⟩ := q
              obtain rfl := hd2_of h2
              dsimp only
              split
              · exact .other _
              · rename_i hs
                simp only [Bool.or_eq_true, not_or, Bool.not_eq_true] at hs
                exact .rai f fp cp p a b hg hf hs.1 hs.2
          · exact .other _
        | _ => exact .other _
  | Try b hs o f p =>
    show SI' n sc _ (if o.isEmpty && f.isEmpty then (match hd1 hs with
      | some h => erT sc (b.map (erS n sc)) h
      | none => .other) else .other)
    split
    · rename_i h
      simp only [Bool.and_eq_true, List.isEmpty_iff] at h
      obtain ⟨rfl, rfl⟩ := h
      cases h1 : hd1 hs with
      | none => exact .other _
      | some h =>
        obtain rfl := hd1_of h1
        obtain ⟨t, x, l, p1⟩ := h
        cases t with
        | none => exact .other _
        | some t => cases x with
          | none => exact .other _
          | some x =>
            show SI' n sc _ (if isFail sc t && onlyLocal sc x then S.try_ (b.map (erS n sc)) (tok x) (erH x l) else .other)
            split
            · rename_i h
              rw [Bool.and_eq_true] at h
              obtain ⟨f, fp, rfl, hg, hf⟩ := isFail_of h.1
              exact .try_ b f x fp p1 p l _ hg hf h.2 (erH_inv x l)
            · exact .other _
    · exact .other _
  | _ => exact .other _

inductive Fl where
  | next
  | ret (d : D)

noncomputable def frz (ρ : Rho) : Rho := ρ.map fun p => (p.1, match p.2 with | .val d => .val d | .own l => .val (.list l))

noncomputable def putAll : List Nat → List D → Rho → Rho
  | x :: xs, d :: ds, ρ => putAll xs ds (Rho.put x (.val d) ρ)
  | _, _, ρ => ρ

noncomputable abbrev RzS := Rz (Fl × Rho)

noncomputable def exL (f : Rho → Nat → S → RzS) : List S → Rho → Nat → RzS
  | [], ρ, k => .ok (.next, ρ) k
  | s :: r, ρ, k => (f ρ k s).bind fun p k => match p with
    | (.next, ρ) => exL f r ρ k
    | q => .ok q k

/-- the turns of a for loop -/
noncomputable def exF (f : Rho → Nat → RzS) (x : Nat) : List D → Rho → Nat → RzS
  | [], ρ, k => .ok (.next, ρ) k
  | d :: r, ρ, k => (f (Rho.put x (.val d) ρ) k).bind fun p k => match p with
    | (.next, ρ) => exF f x r ρ k
    | q => .ok q k

/-- the turns of a while -/
noncomputable def exW (t : Rho → Nat → Rz D) (f : Rho → Nat → RzS) : Nat → Rho → Nat → RzS
  | 0, _, _ => .stuck
  | n + 1, ρ, k => (t ρ k).bind fun d k => match d with
    | .bool true => (f ρ k).bind fun p k => match p with
      | (.next, ρ) => exW t f n ρ k
      | q => .ok q k
    | .bool false => .ok (.next, ρ) k
    | _ => .stuck

noncomputable def own? (ρ : Rho) (x : Nat) : Option (List D) := match ρ.lookup x with
  | some (.own l) => some l
  | _ => none

noncomputable def setD (l : List D) (i d : D) : Option (List D) := match i with
  | .int j => if 0 ≤ j ∧ j < l.length ∧ j < 1048576 then some (l.set j.toNat d) else none
  | _ => none

noncomputable def ex (Φ : PhiT) (Γ : GamT) : Nat → Rho → Nat → S → RzS
  | 0, _, _, _ => .stuck
  | n + 1, ρ, k, s => match s with
    | .ret e => (ev Φ Γ n .val (frz ρ) k e).bind fun d k => .ok (.ret d, ρ) k
    | .newL x => .ok (.next, Rho.put x (.own []) ρ) k
    | .assign x e => (ev Φ Γ n .val ρ k e).bind fun d k => .ok (.next, Rho.put x (.val d) ρ) k
    | .mass xs e => (ev Φ Γ n .val ρ k e).bind fun d k => match d with
      | .tuple ds => if ds.length = xs.length then .ok (.next, putAll xs ds ρ) k else .stuck
      | .list ds => if ds.length = xs.length then .ok (.next, putAll xs ds ρ) k else .stuck
      | _ => .stuck
    | .seti _ _ _ => .stuck
    | .app x e => match own? ρ x with
      | some l => if l.length ≤ 1000000 then (ev Φ Γ n .val ρ k e).bind fun d k => .ok (.next, Rho.put x (.own (l ++ [d])) ρ) k else .stuck
      | none => .stuck
    | .ite c a b => (ev Φ Γ n .test ρ k c).bind fun d k => match d with
      | .bool true => exL (fun ρ k s => ex Φ Γ n ρ k s) a ρ k
      | .bool false => exL (fun ρ k s => ex Φ Γ n ρ k s) b ρ k
      | _ => .stuck
    | .whl c b => exW (fun ρ k => ev Φ Γ n .test ρ k c) (fun ρ k => exL (fun ρ k s => ex Φ Γ n ρ k s) b ρ k) n ρ k
    | .fo x it b => (ev Φ Γ n .iter ρ k it).bind fun d k => match d with
      | .list items => exF (fun ρ k => exL (fun ρ k s => ex Φ Γ n ρ k s) b ρ k) x items ρ k
      | _ => .stuck
    | .newL2 _ _ => .stuck
    | .newC _ _ => .stuck
    | .rai _ _ => .stuck
    | .try_ b x h => match exL (fun ρ k s => ex Φ Γ n ρ k s) b ρ k with
      | .ok p k => .ok p k
      | .exc _ _ => .stuck
      | .stuck => .stuck
    | .eval e => (ev Φ Γ n .val ρ k e).bind fun d k => match d with
      | .none => .ok (.next, ρ) k
      | _ => .stuck
    | .other => .stuck

end Mine

open PySem PySem.W PySem.Spec PySem.Calls PyProof.Rows
set_option Elab.async false
set_option maxRecDepth 100000
set_option linter.unusedVariables false
namespace Mine

/-- what a def's run keeps of what stood at its call -/
structure Kp (hc : Heap) (G0 : Addr → Option Obj) (FLo : List Addr) (h : Heap) : Prop where
  g0 : ∀ b o, G0 b = some o → h.get? b = some o
  n0 : ∀ b ∈ FLo, ∀ m, hc.Ns b m → h.Ns b m
  old : ∀ b, h.get? b = none → hc.get? b = none

/-- a def's frame on its way -/
structure St (bx : Bx) (hb : Heap) (A : Around) (FLo : List Addr) (L : Addr) (nn : Nat) (X0 : Addr → Prop) (hc : Heap) (G0 : Addr → Option Obj) (ε : Env) (s : Shared) (k : Nat) (ρ : Rho) (X : Addr → Prop) (σ : Str → Addr) : Prop where
  cx : Cx bx hb A (L :: FLo) nn X s k
  vw : Vw bx (L :: FLo) X ε ε.scope.names s.heap ρ
  loc : ε.locals = L
  frm : ε.frame = some L
  kp : Kp hc G0 FLo s.heap
  g1 : ∀ b o, G0 b = some o → b ∉ FLo ∧ ∀ xs, bx ≠ some (b, xs)
  g2 : ∀ b o, G0 b = some o → hc.get? b = some o
  x0 : ∀ a, X0 a → X a
  gL : G0 L = none ∧ hc.get? L = none
  abv : hb.objs.size ≤ L
  lfo : L ∉ FLo
  cells : ∀ x c, ε.cells.lookup x = some c → X c ∧ G0 c = none ∧ hc.get? c = none ∧ ∃ o v, s.heap.get? c = some o ∧ o.data = .cell v
  inj : ∀ x y c, ε.cells.lookup x = some c → ε.cells.lookup y = some c → x = y
  own : ∀ x l, vis ε.scope.names x = true → ρ.lookup (tok x) = some (.own l) → Holds ε s.heap x (.ref (σ x)) ∧ X (σ x) ∧ ¬ X0 (σ x) ∧ G0 (σ x) = none ∧ hc.get? (σ x) = none ∧ (∃ vs n, s.heap.get? (σ x) = some { cls := .type "list", data := .seq (List.toArray vs) n } ∧ RepL bx X s.heap vs l) ∧ ∀ xs, bx ≠ some (σ x, xs)
  ownj : ∀ x y l l', vis ε.scope.names x = true → vis ε.scope.names y = true → ρ.lookup (tok x) = some (.own l) → ρ.lookup (tok y) = some (.own l') → σ x = σ y → x = y
  bl : ∀ b bl xs, bx = some (b, bl, xs) → ∀ x l, vis ε.scope.names x = true → ρ.lookup (tok x) = some (.own l) → σ x ≠ bl

section
variable {prog : Program} {w : World} {bx : Bx} {hb : Heap} {C : Addr} {A : Around} {FLo : List Addr} {L : Addr} {nn : Nat} {X0 : Addr → Prop} {hc : Heap} {G0 : Addr → Option Obj} {ε : Env} {s : Shared} {k : Nat} {ρ : Rho} {X : Addr → Prop} {σ : Str → Addr} {E : Value → Shared → Prop} {xc : Prop}

theorem lcl_vis {sc : Sc} {x : Str} (h : lcl sc x = true) : vis sc x = true := by
  unfold lcl at h
  unfold vis
  simp only [Bool.and_eq_true, bne_iff_ne, ne_eq, Bool.or_eq_true, beq_iff_eq] at h ⊢
  refine ⟨h.1, ?_⟩
  rcases h.2 with q | q <;> rw [q] <;> rfl
theorem lcl_kind {sc : Sc} {x : Str} (h : lcl sc x = true) : sc.lookup x = some .local ∨ sc.lookup x = some .cell := by
  unfold lcl at h
  simp only [Bool.and_eq_true, bne_iff_ne, ne_eq, Bool.or_eq_true, beq_iff_eq] at h
  exact h.2

theorem lookup_put {x y : Nat} {v : Var} : ∀ {ρ : Rho}, (Rho.put x v ρ).lookup y = if y = x then some v else ρ.lookup y
  | [] => by
    show List.lookup y [(x, v)] = _
    rw [List.lookup_cons]
    by_cases h : y = x
    · subst h; simp
    · have e' : (y == x) = false := by simpa using h
      rw [e', if_neg h]
  | p :: r => by
    unfold Rho.put
    by_cases h : (x == p.1) = true
    · rw [if_pos h]
      have h' : x = p.1 := by simpa using h
      rw [List.lookup_cons]
      by_cases e : y = x
      · subst e; simp
      · have e' : (y == x) = false := by simpa using e
        rw [e']
        obtain ⟨p1, p2⟩ := p
        simp only at h' ⊢
        rw [if_neg e, List.lookup_cons, ← h', e']
    · rw [if_neg h]
      obtain ⟨p1, p2⟩ := p
      rw [List.lookup_cons, List.lookup_cons, lookup_put]
      have h' : x ≠ p1 := by simpa using h
      by_cases e : y = p1
      · subst e; simp [Ne.symm h']
      · have e' : (y == p1) = false := by simpa using e
        rw [e']

theorem lookup_putT {x y : Str} {v : Var} {ρ : Rho} : (Rho.put (tok x) v ρ).lookup (tok y) = if y = x then some v else ρ.lookup (tok y) := by
  rw [lookup_put]
  by_cases h : y = x
  · rw [if_pos h, if_pos (congrArg tok h)]
  · rw [if_neg h, if_neg fun e => h (tok_inj e)]

theorem ns_unique {h : Heap} {a : Addr} {m m' : Str → Option Value} (x : h.Ns a m) (y : h.Ns a m') : m = m' := by
  obtain ⟨o, es, ep, h1, h2, h3, h4⟩ := x
  obtain ⟨o', es', ep', g1, g2, g3, g4⟩ := y
  rw [h1] at g1; cases g1
  rw [h2] at g2; cases g2
  funext z
  rw [← h4, ← g4]

/-- from here to there: only what is left out has turned, and only new things are left out besides -/
structure Mv (X X' : Addr → Prop) (h h' : Heap) : Prop where
  keep : ∀ b o, ¬ X b → h.get? b = some o → h'.get? b = some o
  more : ∀ a, X' a → X a ∨ h.get? a = none
  less : ∀ a, X a → X' a

theorem Mv.refl {h : Heap} : Mv X X h h := ⟨fun _ _ _ e => e, fun _ x => .inl x, fun _ x => x⟩
theorem Mv.trans {X X' X'' : Addr → Prop} {h h' h'' : Heap} (m : Mv X X' h h') (m' : Mv X' X'' h' h'') (lv : ∀ a, h'.get? a = none → h.get? a = none) : Mv X X'' h h'' :=
  ⟨fun b o nx e => m'.keep b o (fun z => (m.more b z).elim nx fun z => (by rw [e] at z; cases z)) (m.keep b o nx e),
   fun a x => (m'.more a x).elim (m.more a) fun z => .inr (lv a z), fun a x => m'.less a (m.less a x)⟩

/-- the shared state but for the heap -/
noncomputable def Rest (s s' : Shared) : Prop := ∃ h tk, s' = { s with heap := h, toks := tk }
theorem Rest.refl : Rest s s := ⟨s.heap, s.toks, rfl⟩
theorem Rest.trans {s s' s'' : Shared} (a : Rest s s') (b : Rest s' s'') : Rest s s'' := by
  obtain ⟨h, t, rfl⟩ := a
  obtain ⟨h', t', rfl⟩ := b
  exact ⟨h', t', rfl⟩
theorem Step.rest {FL : List Addr} {s s' : Shared} {k : Nat} (st : Step bx FL s s' k) : Rest s s' := by
  obtain ⟨h, t, rfl, _⟩ := st
  exact ⟨h, t, rfl⟩

theorem Step.mv (c : Cx bx hb A FLo nn X s k) {s' : Shared} {k' : Nat} (st : Step bx FLo s s' k') : Mv X X s.heap s'.heap :=
  ⟨fun b o nx e => st.ext.keep b o e (fun m => nx (c.wd.flb b m)) fun xs z => nx (c.wd.bxx b xs z), fun a x => .inl x, fun a x => x⟩

/-- an expression's run keeps the frame's facts -/
theorem St.step (T : St bx hb A FLo L nn X0 hc G0 ε s k ρ X σ) {s' : Shared} {k' : Nat} (st : Step bx (L :: FLo) s s' k') : St bx hb A FLo L nn X0 hc G0 ε s' k' ρ X σ where
  cx := T.cx.step st
  vw := T.vw.step T.cx st
  loc := T.loc
  frm := T.frm
  kp := ⟨fun b o e => st.ext.keep b o (T.kp.g0 b o e) (fun m => by
      rcases List.mem_cons.mp m with z | z
      · rw [z, T.gL.1] at e; cases e
      · exact (T.g1 b o e).1 z) (T.g1 b o e).2, fun b m m' e => st.ext.ns b m' (T.kp.n0 b m m' e), fun b e => T.kp.old b (st.old T.cx e)⟩
  g1 := T.g1
  g2 := T.g2
  x0 := T.x0
  gL := T.gL
  abv := T.abv
  lfo := T.lfo
  cells := fun x c e => by
    obtain ⟨a1, a2, a3, o, v, a4, a5⟩ := T.cells x c e
    refine ⟨a1, a2, a3, o, v, st.ext.keep c o a4 (fun m => ?_) (fun xs z => ?_), a5⟩
    · obtain ⟨_, o', es, ep, q, hd', _⟩ := T.cx.act.ns c m
      rw [a4] at q; cases q
      rw [a5] at hd'; cases hd'
    · have B := T.cx.wd.box
      subst z
      obtain ⟨_, _, _, _, q, _⟩ := B
      rw [a4] at q; cases q
      cases a5
  inj := T.inj
  own := fun x l hv e => by
    obtain ⟨H, a1, a2, a3, a4, ⟨vs, n, a5, a6⟩, a7⟩ := T.own x l hv e
    refine ⟨H.ext T.cx.act.ns T.cx.wd.box st.ext, a1, a2, a3, a4, ⟨vs, n, st.ext.keep _ _ a5 (fun m => ?_) a7, a6.ext T.cx.wd st.ext⟩, a7⟩
    obtain ⟨_, o', es, ep, q, hd', _⟩ := T.cx.act.ns _ m
    rw [a5] at q; cases q
    cases hd'
  ownj := T.ownj
  bl := T.bl

/-- the facts hang on what names say alone -/
theorem St.names {ρ' : Rho} (T : St bx hb A FLo L nn X0 hc G0 ε s k ρ X σ) (h : ∀ y, ρ'.lookup y = ρ.lookup y) : St bx hb A FLo L nn X0 hc G0 ε s k ρ' X σ where
  cx := T.cx
  vw := ⟨T.vw.ek, T.vw.eg, T.vw.eb, T.vw.fr, T.vw.glo, T.vw.cel, fun x d hv q => T.vw.vars x d hv (by rw [← h]; exact q), fun x l hv q => T.vw.owns x l hv (by rw [← h]; exact q)⟩
  loc := T.loc
  frm := T.frm
  kp := T.kp
  g1 := T.g1
  g2 := T.g2
  x0 := T.x0
  gL := T.gL
  abv := T.abv
  lfo := T.lfo
  cells := T.cells
  inj := T.inj
  own := fun x l hv e => T.own x l hv (by rw [← h]; exact e)
  ownj := fun x y l l' hx hy e e' => T.ownj x y l l' hx hy (by rw [← h]; exact e) (by rw [← h]; exact e')
  bl := fun b bl xs e x l hx q => T.bl b bl xs e x l hx (by rw [← h]; exact q)

theorem celd (T : St bx hb A FLo L nn X0 hc G0 ε s k ρ X σ) {x : Str} {c : Addr} (h : ε.cells.lookup x = some c) : c ≠ L := fun z => by
  obtain ⟨_, _, _, o, v, e, d⟩ := T.cells x c h
  obtain ⟨m, o', es, ep, q, hd', _⟩ := T.cx.act.ns L (.head _)
  rw [z, q] at e; cases e
  rw [hd'] at d; cases d

/-- a value goes under a name -/
theorem St.store (T : St bx hb A FLo L nn X0 hc G0 ε s k ρ X σ) {x : Str} {v : Value} {u : Var} {σ' : Str → Addr} (hl : lcl ε.scope.names x = true)
    (hu : match u with
      | .val d => Rep bx X s.heap v d ∧ σ' = σ
      | .own l => ∃ a vs n, v = .ref a ∧ σ' = (fun y => if y = x then a else σ y) ∧ X a ∧ ¬ X0 a ∧ G0 a = none ∧ hc.get? a = none ∧ s.heap.get? a = some { cls := .type "list", data := .seq (List.toArray vs) n } ∧ RepL bx X s.heap vs l ∧ (∀ xs, bx ≠ some (a, xs)) ∧
          (∀ y l', y ≠ x → vis ε.scope.names y = true → ρ.lookup (tok y) = some (.own l') → σ y ≠ a) ∧ ∀ b bl xs, bx = some (b, bl, xs) → a ≠ bl)
    {Q : Unit → Shared → Prop} (h : ∀ s', St bx hb A FLo L nn X0 hc G0 ε s' k (Rho.put (tok x) u ρ) X σ' → Mv X X s.heap s'.heap → Rest s s' → (∀ b, s'.heap.get? b = none → s.heap.get? b = none) → Q () s') :
    wpAny (model prog w) A (storeName ε x v) Q E s := by
  obtain ⟨mL, hmL⟩ := T.cx.act.ns L (.head _)
  have XL : X L := T.cx.wd.flb L (.head _)
  have main : ∀ (z : Addr) (s' : Shared) (h' : Heap) (tk : Nat), s' = { s with heap := h', toks := tk } → X z → G0 z = none → hc.get? z = none → (∀ b, b ≠ z → h'.get? b = s.heap.get? b) → (∃ o, h'.get? z = some o) → (z = L ∨ (z ∉ FLo ∧ ∃ o v, s.heap.get? z = some o ∧ o.data = .cell v)) → (z = L → z ∉ FLo) →
      (∀ y u', y ≠ x → Holds ε s.heap y u' → Holds ε h' y u') → Holds ε h' x v → (∀ y c, ε.cells.lookup y = some c → ∃ o v, h'.get? c = some o ∧ o.data = .cell v) → (∃ m, h'.Ns L m) → Q () s' := by
    intro z s' h' tk es Xz Gz hcz hsame hlive hkind hnf hold hnew hcells hns
    have kz : ∀ b o, b ≠ z → s.heap.get? b = some o → h'.get? b = some o := fun b o n e => (hsame b n).trans e
    have mv : Mv X X s.heap h' := ⟨fun b o nx e => kz b o (fun q => nx (q ▸ Xz)) e, fun a x => .inl x, fun a x => x⟩
    have lv : ∀ b, h'.get? b = none → s.heap.get? b = none := fun b e => by
      by_cases q : b = z
      · subst q; obtain ⟨o, e'⟩ := hlive; rw [e'] at e; cases e
      · rw [← hsame b q]; exact e
    have rep : ∀ {v d}, Rep bx X s.heap v d → Rep bx X h' v d := fun r => r.map (fun a o nx e => ⟨nx, mv.keep a o nx e⟩) fun _ _ z => z
    have repL : ∀ {v d}, RepL bx X s.heap v d → RepL bx X h' v d := fun r => r.map (fun a o nx e => ⟨nx, mv.keep a o nx e⟩) fun _ _ z => z
    have seqz : ∀ a (o : Obj), s.heap.get? a = some o → (∀ es ep, o.data ≠ .dict es ep) → (∀ v, o.data ≠ .cell v) → a ≠ z := fun a o e nd nc q => by
      subst q
      rcases hkind with q | ⟨_, o', v', e', d'⟩
      · obtain ⟨o', es, ep, e', d', _⟩ := hmL
        rw [← q, e] at e'; cases e'
        exact nd _ _ d'
      · rw [e] at e'; cases e'
        exact nc _ d'
    have flz : ∀ b ∈ FLo, b ≠ z := fun b m q => by
      subst q
      rcases hkind with q | ⟨nf, _⟩
      · exact hnf q m
      · exact nf m
    have nsz : ∀ b ∈ FLo, ∀ m, s.heap.Ns b m → h'.Ns b m := fun b m mm e => by
      obtain ⟨o, es, ep, e1, r⟩ := e
      exact ⟨o, es, ep, kz b o (flz b m) e1, r⟩
    have act : Act A (L :: FLo) nn h' := ⟨T.cx.act.hd, T.cx.act.fr, fun b m => by
      rcases List.mem_cons.mp m with q | q
      · subst q; exact hns
      · obtain ⟨m', e⟩ := T.cx.act.ns b m
        exact ⟨m', nsz b q m' e⟩, T.cx.act.dep, T.cx.act.uni⟩
    have box : BoxI bx h' k := by
      have B := T.cx.wd.box
      cases bx with
      | none => trivial
      | some p =>
        obtain ⟨b, l, xs⟩ := p
        obtain ⟨n, vl, nl, tk, h1, h2, h3, h4⟩ := B
        exact ⟨n, vl, nl, tk, kz _ _ (seqz _ _ h1 (by intro _ _ q; cases q) (by intro _ q; cases q)) h1, kz _ _ (seqz _ _ h2 (by intro _ _ q; cases q) (by intro _ q; cases q)) h2, h3, h4⟩
    have wd : Wd bx hb X (L :: FLo) h' k := ⟨fun b o e => by
        have := T.cx.wd.base b o e
        exact kz b o (fun q => by rw [q, (T.cx.wd.xok z Xz).1] at e; cases e) this, T.cx.wd.flb, fun a xa => ⟨(T.cx.wd.xok a xa).1, by
          cases q : h'.get? a with
          | some o => exact ⟨o, rfl⟩
          | none =>
            obtain ⟨o, e⟩ := (T.cx.wd.xok a xa).2
            rw [lv a q] at e; cases e⟩, box, T.cx.wd.bxx⟩
    subst es
    refine h _ ⟨⟨act, wd, T.cx.fl⟩, ⟨T.vw.ek, T.vw.eg, T.vw.eb, T.vw.fr, T.vw.glo, T.vw.cel, fun y d hv q => ?_, fun y l hv q => ?_⟩, T.loc, T.frm, ⟨fun b o e => kz b o (fun q => by rw [q, Gz] at e; cases e) (T.kp.g0 b o e), fun b m mm e => nsz b m mm (T.kp.n0 b m mm e), fun b e => T.kp.old b (lv b e)⟩, T.g1, T.g2, T.x0, T.gL, T.abv, T.lfo,
      fun y c e => ?_, T.inj, fun y l hv q => ?_, fun y y' l l' hv hv' q q' e => ?_, fun b bl xs eb y l hv q => ?_⟩ mv ⟨h', tk, rfl⟩ lv
    · rw [lookup_putT] at q
      split at q
      · rename_i e
        subst e
        cases q
        exact ⟨v, hnew, rep hu.1⟩
      · rename_i e
        obtain ⟨u', H, r⟩ := T.vw.vars y d hv q
        exact ⟨u', hold y u' e H, rep r⟩
    · rw [lookup_putT] at q
      split at q
      · rename_i e
        subst e
        cases q
        obtain ⟨a, vs, n, rfl, _, ax, a1, a2, a3, a4, a5, a6, a7⟩ := hu
        refine ⟨a, vs, n, hnew, fun m => ?_, a6, kz _ _ (seqz _ _ a4 (by intro _ _ q; cases q) (by intro _ q; cases q)) a4, repL a5⟩
        obtain ⟨_, o', es, ep, q, hd', _⟩ := T.cx.act.ns _ m
        rw [a4] at q; cases q
        cases hd'
      · rename_i e
        obtain ⟨a, vs, n, H, nf, nb, g, r⟩ := T.vw.owns y l hv q
        exact ⟨a, vs, n, hold y _ e H, nf, nb, kz _ _ (seqz _ _ g (by intro _ _ q; cases q) (by intro _ q; cases q)) g, repL r⟩
    · obtain ⟨b1, b2, b3, _⟩ := T.cells y c e
      exact ⟨b1, b2, b3, hcells y c e⟩
    · rw [lookup_putT] at q
      split at q
      · rename_i e
        subst e
        cases q
        obtain ⟨a, vs, n, rfl, rfl, ax, a1, a2, a3, a4, a5, a6, a7⟩ := hu
        dsimp only
        rw [if_pos rfl]
        exact ⟨hnew, ax, a1, a2, a3, ⟨vs, n, kz _ _ (seqz _ _ a4 (by intro _ _ q; cases q) (by intro _ q; cases q)) a4, repL a5⟩, a6⟩
      · rename_i e
        obtain ⟨H, b1, b2, b3, b4, ⟨vs, n, b5, b6⟩, b7⟩ := T.own y l hv q
        have eσ : σ' y = σ y := by
          cases u with
          | val d => rw [hu.2]
          | own l' => obtain ⟨a, _, _, _, e', _⟩ := hu; rw [e']; exact if_neg e
        rw [eσ]
        exact ⟨hold y _ e H, b1, b2, b3, b4, ⟨vs, n, kz _ _ (seqz _ _ b5 (by intro _ _ q; cases q) (by intro _ q; cases q)) b5, repL b6⟩, b7⟩
    · rw [lookup_putT] at q q'
      cases u with
      | val d =>
        rw [hu.2] at e
        split at q
        · cases q
        · split at q'
          · cases q'
          · exact T.ownj y y' l l' hv hv' q q' e
      | own l0 =>
        obtain ⟨a, vs, n, _, e', _, _, _, _, _, _, _, a7, _⟩ := hu
        rw [e'] at e
        dsimp only at e
        split at q
        · rename_i c1
          split at q'
          · rename_i c2; rw [c1, c2]
          · rename_i c2
            rw [if_pos c1, if_neg c2] at e
            exact absurd e.symm (a7 y' l' c2 hv' q')
        · rename_i c1
          split at q'
          · rename_i c2
            rw [if_neg c1, if_pos c2] at e
            exact absurd e (a7 y l c1 hv q)
          · rename_i c2
            rw [if_neg c1, if_neg c2] at e
            exact T.ownj y y' l l' hv hv' q q' e
    · rw [lookup_putT] at q
      cases u with
      | val d =>
        rw [hu.2]
        split at q
        · cases q
        · exact T.bl b bl xs eb y l hv q
      | own l0 =>
        obtain ⟨a, vs, n, _, e', _, _, _, _, _, _, _, _, a8⟩ := hu
        rw [e']
        dsimp only
        split at q
        · rename_i c1
          rw [if_pos c1]
          exact a8 b bl xs eb
        · rename_i c1
          rw [if_neg c1]
          exact T.bl b bl xs eb y l hv q
  rcases lcl_kind hl with hk | hk
  · -- a local
    obtain ⟨m, hm⟩ : ∃ m, s.heap.Ns ε.locals m := by rw [T.loc]; exact ⟨mL, hmL⟩
    refine wpAny_storeName_local hk hm (fun h' hn hs => ?_) (by
      show (ε.scope.kind == .class || (ε.scope.kind == .module && ε.locals != ε.globals)) = false
      rw [T.vw.ek]; rfl)
    rw [T.loc] at hn hs hm
    refine main L _ h' _ rfl XL T.gL.1 T.gL.2 (fun b n => hs.2 b n) (by obtain ⟨o, _, _, e, _⟩ := hn; exact ⟨o, e⟩) (.inl rfl) (fun _ q => ?_) (fun y u' ne H => ?_) (.inl ⟨hk, _, T.loc ▸ hn, by simp⟩) (fun y c e => ?_) ⟨_, hn⟩
    · exact T.lfo q
    · rcases H with ⟨hk', m', hm', e⟩ | ⟨hk', c, o, hc', ho, hd⟩
      · rw [T.loc] at hm'
        have := ns_unique hm hm'
        subst this
        exact .inl ⟨hk', _, T.loc ▸ hn, by rw [if_neg ne]; exact e⟩
      · exact .inr ⟨hk', c, o, hc', (hs.2 c (celd T hc')).trans ho, hd⟩
    · obtain ⟨_, _, _, o, v', e1, e2⟩ := T.cells y c e
      exact ⟨o, v', (hs.2 c (celd T e)).trans e1, e2⟩
  · -- a cell
    obtain ⟨c, hcl⟩ := (T.vw.cel x hk).2
    have hkk := (T.vw.cel x hk).1
    obtain ⟨Xc, Gc, hcc, o, v₀, e1, e2⟩ := T.cells x c hcl
    refine wpAny_storeName_cell T.vw.ek hkk hcl ⟨o, e1, e2⟩ fun h' hv hs => ?_
    obtain ⟨o', e1', e2'⟩ := hv
    refine main c _ h' s.toks rfl Xc Gc hcc (fun b n => hs.2 b n) ⟨o', e1'⟩ (.inr ⟨fun m => ?_, o, v₀, e1, e2⟩) (fun q => absurd q (celd T hcl)) (fun y u' ne H => ?_) (.inr ⟨hkk, c, o', hcl, e1', e2'⟩) (fun y c' e => ?_) ⟨mL, hmL.sameBut hs (Ne.symm (celd T hcl))⟩
    · obtain ⟨_, o', es, ep, q, hd', _⟩ := T.cx.act.ns c (.tail _ m)
      rw [e1] at q; cases q
      rw [e2] at hd'; cases hd'
    · rcases H with ⟨hk', m', hm', e⟩ | ⟨hk', c', o2, hc', ho, hd⟩
      · rw [T.loc] at hm'
        exact .inl ⟨hk', m', T.loc ▸ hm'.sameBut hs (Ne.symm (celd T hcl)), e⟩
      · refine .inr ⟨hk', c', o2, hc', (hs.2 c' fun q => ?_).trans ho, hd⟩
        subst q
        exact ne (T.inj _ _ _ hc' hcl)
    · by_cases q : c' = c
      · subst q; exact ⟨o', _, e1', e2'⟩
      · obtain ⟨_, _, _, o2, v', g1, g2⟩ := T.cells y c' e
        exact ⟨o2, v', (hs.2 c' q).trans g1, g2⟩
end
end Mine

open PySem PySem.W PySem.Spec PySem.Calls PyProof.Rows
set_option Elab.async false
set_option maxRecDepth 100000
set_option linter.unusedVariables false
namespace Mine

section
variable {bx bx' : Bx} {X X' : Addr → Prop} {h h' : Heap}
mutual
theorem Rep.mapS (H : ∀ a o xs n, ¬ X a → h.get? a = some o → o.data = .seq xs n → ¬ X' a ∧ h'.get? a = some o) (hb : ∀ a xs, bx = some (a, xs) → bx' = some (a, xs)) : ∀ {v : Value} {d : D}, Rep bx X h v d → Rep bx' X' h' v d
  | _, _, .none => .none
  | _, _, .bool b => .bool b
  | _, _, .int i t => .int i t
  | _, _, .str x t => .str x t
  | _, _, .tup nx e c q r => .tup (H _ _ _ _ nx e q).1 (H _ _ _ _ nx e q).2 c q (RepL.mapS H hb r)
  | _, _, .lst nx e r => .lst (H _ _ _ _ nx e rfl).1 (H _ _ _ _ nx e rfl).2 (RepL.mapS H hb r)
  | _, _, .box e => .box (hb _ _ e)
theorem RepL.mapS (H : ∀ a o xs n, ¬ X a → h.get? a = some o → o.data = .seq xs n → ¬ X' a ∧ h'.get? a = some o) (hb : ∀ a xs, bx = some (a, xs) → bx' = some (a, xs)) : ∀ {vs : List Value} {ds : List D}, RepL bx X h vs ds → RepL bx' X' h' vs ds
  | _, _, .nil => .nil
  | _, _, .cons a r => .cons (Rep.mapS H hb a) (RepL.mapS H hb r)
end
end

section
variable {prog : Program} {w : World} {bx : Bx} {hb : Heap} {C : Addr} {A : Around} {FLo : List Addr} {L : Addr} {nn : Nat} {X0 : Addr → Prop} {hc : Heap} {G0 : Addr → Option Obj} {ε : Env} {s : Shared} {k : Nat} {ρ : Rho} {X : Addr → Prop} {σ : Str → Addr} {E : Value → Shared → Prop} {xc : Prop}

/-- a thing made since is left out from now on -/
theorem St.more (T : St bx hb A FLo L nn X0 hc G0 ε s k ρ X σ) {s' : Shared} {k' : Nat} (st : Step bx (L :: FLo) s s' k') {z : Addr} (hz : s.heap.get? z = none) (lz : ∃ o, s'.heap.get? z = some o) :
    St bx hb A FLo L nn X0 hc G0 ε s' k' ρ (fun a => X a ∨ a = z) σ := by
  have T' := T.step st
  have hX : ∀ a, (X a ∨ a = z) → X a ∨ s.heap.get? a = none := fun a q => q.imp id fun q => by subst q; exact hz
  refine { T' with cx := T.cx.more st (fun a q => .inl q) (fun a q => q.imp id fun q => by subst q; exact ⟨hz, lz⟩), vw := T.vw.extX T.cx.wd T.cx.act.ns st.ext hX, x0 := fun a q => .inl (T.x0 a q), cells := fun x c e => ?_, own := fun x l hv e => ?_ }
  · obtain ⟨a1, a2⟩ := T'.cells x c e
    exact ⟨.inl a1, a2⟩
  · obtain ⟨H, a1, a2, a3, a4, ⟨vs, n, a5, a6⟩, a7⟩ := T.own x l hv e
    obtain ⟨H', _, _, _, _, ⟨vs', n', b5, b6⟩, _⟩ := T'.own x l hv e
    have h2 : s'.heap.get? (σ x) = some { cls := .type "list", data := .seq (List.toArray vs) n } := st.ext.keep _ _ a5 (fun m => by
      obtain ⟨_, o', es, ep, q, hd', _⟩ := T.cx.act.ns _ m
      rw [a5] at q; cases q
      cases hd') a7
    exact ⟨H', .inl a1, a2, a3, a4, ⟨vs, n, h2, a6.map (fun a o nx g => ⟨fun z => (hX a z).elim nx fun z => (by rw [g] at z; cases z), st.ext.keep a o g (fun m => nx (T.cx.wd.flb a m)) fun xs z => nx (T.cx.wd.bxx _ _ z)⟩) fun _ _ z => z⟩, a7⟩

/-- a thing that nobody knows turns -/
theorem St.turn (T : St bx hb A FLo L nn X0 hc G0 ε s k ρ X σ) {z : Addr} {h' : Heap} {tk : Nat} (Xz : ¬ X z) (nf : z ∉ L :: FLo) (gz : G0 z = none) (hz : hc.get? z = none) (hbz : hb.get? z = none)
    (hnd : ∃ o, s.heap.get? z = some o ∧ (∀ xs n, o.data ≠ .seq xs n) ∧ ∀ v, o.data ≠ .cell v) (kz : ∀ b o, b ≠ z → s.heap.get? b = some o → h'.get? b = some o) :
    St bx hb A FLo L nn X0 hc G0 ε { s with heap := h', toks := tk } k ρ X σ := by
  obtain ⟨oz, ez, dz, cz⟩ := hnd
  have seqz : ∀ a (o : Obj) xs n, s.heap.get? a = some o → o.data = .seq xs n → a ≠ z := fun a o xs n e nd q => by
    subst q
    rw [e] at ez; cases ez
    exact dz _ _ nd
  have nsz : ∀ b ∈ L :: FLo, ∀ m, s.heap.Ns b m → h'.Ns b m := fun b m mm e => by
    obtain ⟨o, es, ep, e1, r⟩ := e
    exact ⟨o, es, ep, kz b o (fun q => nf (q ▸ m)) e1, r⟩
  have rep : ∀ {v d}, Rep bx X s.heap v d → Rep bx X h' v d := fun r => r.mapS (fun a o xs n nx e d => ⟨nx, kz a o (seqz a o xs n e d) e⟩) fun _ _ z => z
  have repL : ∀ {v d}, RepL bx X s.heap v d → RepL bx X h' v d := fun r => r.mapS (fun a o xs n nx e d => ⟨nx, kz a o (seqz a o xs n e d) e⟩) fun _ _ z => z
  have box : BoxI bx h' k := by
    have B := T.cx.wd.box
    cases bx with
    | none => trivial
    | some p =>
      obtain ⟨b, l, xs⟩ := p
      obtain ⟨n, vl, nl, tk, h1, h2, h3, h4⟩ := B
      exact ⟨n, vl, nl, tk, kz _ _ (seqz _ _ _ _ h1 rfl) h1, kz _ _ (seqz _ _ _ _ h2 rfl) h2, h3, h4⟩
  have wd : Wd bx hb X (L :: FLo) h' k := ⟨fun b o e => kz b o (fun q => by rw [q, hbz] at e; cases e) (T.cx.wd.base b o e), T.cx.wd.flb, fun a xa => ⟨(T.cx.wd.xok a xa).1, by
    obtain ⟨o, e⟩ := (T.cx.wd.xok a xa).2
    exact ⟨o, kz a o (fun q => Xz (q ▸ xa)) e⟩⟩, box, T.cx.wd.bxx⟩
  have hcell : ∀ x c, ε.cells.lookup x = some c → c ≠ z := fun x c e q => by
    obtain ⟨_, _, _, o, v, e1, d⟩ := T.cells x c e
    subst q
    rw [e1] at ez; cases ez
    exact cz _ d
  have nsL : ∀ m, s.heap.Ns L m → h'.Ns L m := nsz L (.head _)
  have hold : ∀ y v, Holds ε s.heap y v → Holds ε h' y v := fun y v H => by
    rcases H with ⟨hk, m, hm, e⟩ | ⟨hk, c, o, hc', ho, hd⟩
    · rw [T.loc] at hm
      exact .inl ⟨hk, m, T.loc ▸ nsL m hm, e⟩
    · exact .inr ⟨hk, c, o, hc', kz c o (hcell _ _ hc') ho, hd⟩
  refine ⟨⟨⟨T.cx.act.hd, T.cx.act.fr, fun b m => by
      obtain ⟨m', e⟩ := T.cx.act.ns b m
      exact ⟨m', nsz b m m' e⟩, T.cx.act.dep, T.cx.act.uni⟩, wd, T.cx.fl⟩, ⟨T.vw.ek, T.vw.eg, T.vw.eb, T.vw.fr, T.vw.glo, T.vw.cel, fun y d hv q => ?_, fun y l hv q => ?_⟩, T.loc, T.frm, ⟨fun b o e => kz b o (fun q => by rw [q, gz] at e; cases e) (T.kp.g0 b o e), fun b m mm e => nsz b (.tail _ m) mm (T.kp.n0 b m mm e), fun b e => by
      by_cases q : b = z
      · rw [q]; exact hz
      · refine T.kp.old b ?_
        cases q' : s.heap.get? b with
        | none => rfl
        | some o =>
          have := kz b o q q'
          rw [this] at e; cases e⟩, T.g1, T.g2, T.x0, T.gL, T.abv, T.lfo,
      fun y c e => ?_, T.inj, fun y l hv q => ?_, T.ownj, T.bl⟩
  · obtain ⟨u', H, r⟩ := T.vw.vars y d hv q
    exact ⟨u', hold y u' H, rep r⟩
  · obtain ⟨a, vs, n, H, nf, nb, g, r⟩ := T.vw.owns y l hv q
    exact ⟨a, vs, n, hold y _ H, nf, nb, kz _ _ (seqz _ _ _ _ g rfl) g, repL r⟩
  · obtain ⟨b1, b2, b3, o, v, e1, d⟩ := T.cells y c e
    exact ⟨b1, b2, b3, o, v, kz c o (hcell y c e) e1, d⟩
  · obtain ⟨H, b1, b2, b3, b4, ⟨vs, n, b5, b6⟩, b7⟩ := T.own y l hv q
    exact ⟨hold y _ H, b1, b2, b3, b4, ⟨vs, n, kz _ _ (seqz _ _ _ _ b5 rfl) b5, repL b6⟩, b7⟩

/-- a list of the def's own grows -/
theorem St.push (T : St bx hb A FLo L nn X0 hc G0 ε s k ρ X σ) {x : Str} {l : List D} (hv : vis ε.scope.names x = true) (hx : ρ.lookup (tok x) = some (.own l)) {v : Value} {d : D} (rv : Rep bx X s.heap v d) {h' : Heap} {tk : Nat}
    (hs : ∀ b o, b ≠ σ x → s.heap.get? b = some o → h'.get? b = some o) (hn : ∀ vs n, s.heap.get? (σ x) = some { cls := .type "list", data := .seq (List.toArray vs) n } → ∃ n', h'.get? (σ x) = some { cls := .type "list", data := .seq (List.toArray (vs ++ [v])) n' }) :
    St bx hb A FLo L nn X0 hc G0 ε { s with heap := h', toks := tk } k (Rho.put (tok x) (.own (l ++ [d])) ρ) X σ := by
  obtain ⟨Hz, Xz, x0z, gz, hz, ⟨vsz, nz, ez, rz⟩, bz⟩ := T.own x l hv hx
  obtain ⟨nz', ez'⟩ := hn vsz nz ez
  have kz := hs
  have nf : ∀ b ∈ L :: FLo, b ≠ σ x := fun b m q => by
    obtain ⟨_, o', es, ep, q', hd', _⟩ := T.cx.act.ns b m
    rw [q, ez] at q'; cases q'
    cases hd'
  have nsz : ∀ b ∈ L :: FLo, ∀ m, s.heap.Ns b m → h'.Ns b m := fun b m mm e => by
    obtain ⟨o, es, ep, e1, r⟩ := e
    exact ⟨o, es, ep, kz b o (nf b m) e1, r⟩
  have rep : ∀ {v d}, Rep bx X s.heap v d → Rep bx X h' v d := fun r => r.map (fun a o nx e => ⟨nx, kz a o (fun q => nx (q ▸ Xz)) e⟩) fun _ _ z => z
  have repL : ∀ {v d}, RepL bx X s.heap v d → RepL bx X h' v d := fun r => r.map (fun a o nx e => ⟨nx, kz a o (fun q => nx (q ▸ Xz)) e⟩) fun _ _ z => z
  have box : BoxI bx h' k := by
    have B := T.cx.wd.box
    have BL := T.bl
    cases bx with
    | none => trivial
    | some p =>
      obtain ⟨b, l', xs⟩ := p
      obtain ⟨n, vl, nl, tk, h1, h2, h3, h4⟩ := B
      exact ⟨n, vl, nl, tk, kz _ _ (fun q => bz (l', xs) (by rw [q])) h1, kz _ _ (fun q => BL b l' xs rfl x l hv hx q.symm) h2, h3, h4⟩
  have live : ∀ a o, s.heap.get? a = some o → ∃ o, h'.get? a = some o := fun a o e => by
    by_cases q : a = σ x
    · subst q; exact ⟨_, ez'⟩
    · exact ⟨o, kz a o q e⟩
  have wd : Wd bx hb X (L :: FLo) h' k := ⟨fun b o e => kz b o (fun q => by rw [q, (T.cx.wd.xok _ Xz).1] at e; cases e) (T.cx.wd.base b o e), T.cx.wd.flb, fun a xa => ⟨(T.cx.wd.xok a xa).1, by
    obtain ⟨o, e⟩ := (T.cx.wd.xok a xa).2
    exact live a o e⟩, box, T.cx.wd.bxx⟩
  have hcell : ∀ x' c, ε.cells.lookup x' = some c → c ≠ σ x := fun x' c e q => by
    obtain ⟨_, _, _, o, v, e1, d⟩ := T.cells x' c e
    rw [q, ez] at e1; cases e1
    cases d
  have nsL : ∀ m, s.heap.Ns L m → h'.Ns L m := nsz L (.head _)
  have hold : ∀ y v, Holds ε s.heap y v → Holds ε h' y v := fun y v H => by
    rcases H with ⟨hk, m, hm, e⟩ | ⟨hk, c, o, hc', ho, hd⟩
    · rw [T.loc] at hm
      exact .inl ⟨hk, m, T.loc ▸ nsL m hm, e⟩
    · exact .inr ⟨hk, c, o, hc', kz c o (hcell _ _ hc') ho, hd⟩
  have own' : ∀ y l', vis ε.scope.names y = true → (Rho.put (tok x) (.own (l ++ [d])) ρ).lookup (tok y) = some (.own l') → Holds ε h' y (.ref (σ y)) ∧ X (σ y) ∧ ¬ X0 (σ y) ∧ G0 (σ y) = none ∧ hc.get? (σ y) = none ∧ (∃ vs n, h'.get? (σ y) = some { cls := .type "list", data := .seq (List.toArray vs) n } ∧ RepL bx X h' vs l') ∧ ∀ xs, bx ≠ some (σ y, xs) := fun y l' hvy q => by
    rw [lookup_putT] at q
    split at q
    · rename_i e
      subst e
      cases q
      exact ⟨hold _ _ Hz, Xz, x0z, gz, hz, ⟨_, _, ez', repL (rz.append (.cons rv .nil))⟩, bz⟩
    · rename_i ne
      obtain ⟨H, b1, b2, b3, b4, ⟨vs, n, b5, b6⟩, b7⟩ := T.own y l' hvy q
      exact ⟨hold y _ H, b1, b2, b3, b4, ⟨vs, n, kz _ _ (fun z => ne (T.ownj _ _ _ _ hvy hv q hx z)) b5, repL b6⟩, b7⟩
  refine ⟨⟨⟨T.cx.act.hd, T.cx.act.fr, fun b m => by
      obtain ⟨m', e⟩ := T.cx.act.ns b m
      exact ⟨m', nsz b m m' e⟩, T.cx.act.dep, T.cx.act.uni⟩, wd, T.cx.fl⟩, ⟨T.vw.ek, T.vw.eg, T.vw.eb, T.vw.fr, T.vw.glo, T.vw.cel, fun y d hv q => ?_, fun y l' hvy q => ?_⟩, T.loc, T.frm, ⟨fun b o e => kz b o (fun q => by rw [q, gz] at e; cases e) (T.kp.g0 b o e), fun b m mm e => nsz b (.tail _ m) mm (T.kp.n0 b m mm e), fun b e => T.kp.old b (by
      cases q' : s.heap.get? b with
      | none => rfl
      | some o =>
        obtain ⟨o', this⟩ := live b o q'
        rw [this] at e; cases e)⟩, T.g1, T.g2, T.x0, T.gL, T.abv, T.lfo,
      fun y c e => ?_, T.inj, own', fun y y' l1 l2 hv1 hv2 q1 q2 e => ?_, fun b bl xs eb y l' hvy q => ?_⟩
  · rw [lookup_putT] at q
    split at q
    · cases q
    · obtain ⟨u', H, r⟩ := T.vw.vars y d hv q
      exact ⟨u', hold y u' H, rep r⟩
  · obtain ⟨H, b1, b2, b3, b4, ⟨vs, n, b5, b6⟩, b7⟩ := own' y l' hvy q
    refine ⟨_, vs, n, H, fun m => ?_, b7, b5, b6⟩
    obtain ⟨mm, e⟩ := T.cx.act.ns _ m
    obtain ⟨_, es, ep, q', hd', _⟩ := nsz _ m _ e
    rw [b5] at q'; cases q'
    cases hd'
  · obtain ⟨b1, b2, b3, o, v, e1, d⟩ := T.cells y c e
    exact ⟨b1, b2, b3, o, v, kz c o (hcell y c e) e1, d⟩
  · have back : ∀ y l', (Rho.put (tok x) (.own (l ++ [d])) ρ).lookup (tok y) = some (.own l') → ∃ l'', ρ.lookup (tok y) = some (.own l'') := fun y l' q => by
      rw [lookup_putT] at q
      split at q
      · rename_i e; subst e; exact ⟨_, hx⟩
      · exact ⟨_, q⟩
    obtain ⟨_, q1⟩ := back _ _ q1
    obtain ⟨_, q2⟩ := back _ _ q2
    exact T.ownj y y' _ _ hv1 hv2 q1 q2 e
  · have back : ∃ l'', ρ.lookup (tok y) = some (.own l'') := by
      rw [lookup_putT] at q
      split at q
      · rename_i e; subst e; exact ⟨_, hx⟩
      · exact ⟨_, q⟩
    obtain ⟨_, q1⟩ := back
    exact T.bl b bl xs eb y _ hvy q1

/-- what is fresh was not there at the call -/
theorem St.g0n (T : St bx hb A FLo L nn X0 hc G0 ε s k ρ X σ) {z : Addr} (hz : s.heap.get? z = none) : G0 z = none ∧ hc.get? z = none ∧ ¬ X z ∧ z ∉ L :: FLo ∧ ∀ xs, bx ≠ some (z, xs) := by
  have nx : ¬ X z := fun q => by
    obtain ⟨o, e⟩ := (T.cx.wd.xok z q).2
    rw [hz] at e; cases e
  refine ⟨?_, T.kp.old z hz, nx, fun m => nx (T.cx.wd.flb z m), fun xs q => nx (T.cx.wd.bxx z xs q)⟩
  cases q : G0 z with
  | none => rfl
  | some o => rw [T.kp.g0 z o q] at hz; cases hz
end
end Mine

open PySem PySem.W PySem.Spec PySem.Calls PyProof.Rows
set_option Elab.async false
set_option maxRecDepth 100000
set_option linter.unusedVariables false
namespace Mine

/-- what stands when a def's run leaves a statement for good -/
structure Ot (bx : Bx) (hc : Heap) (G0 : Addr → Option Obj) (FL FLo : List Addr) (h : Heap) (k : Nat) : Prop where
  kp : Kp hc G0 FLo h
  box : BoxI bx h k
  ns : ∀ b ∈ FL, ∃ m, h.Ns b m

noncomputable def XQ (bx : Bx) (hb : Heap) (A : Around) (FLo : List Addr) (L : Addr) (nn : Nat) (X0 : Addr → Prop) (hc : Heap) (G0 : Addr → Option Obj) (ε : Env) (s : Shared) (X : Addr → Prop) (r : RzS) : Flow → Shared → Prop := fun f s' =>
  match f with
  | .next => ∃ ρ' k' X' σ', r = .ok (.next, ρ') k' ∧ St bx hb A FLo L nn X0 hc G0 ε s' k' ρ' X' σ' ∧ Mv X X' s.heap s'.heap ∧ Rest s s' ∧ ∀ b, s'.heap.get? b = none → s.heap.get? b = none
  | .ret v => ∃ d ρ' k', r = .ok (.ret d, ρ') k' ∧ Ot bx hc G0 (L :: FLo) FLo s'.heap k' ∧ Rep bx X0 s'.heap v d ∧ Rest s s'
  | _ => False

noncomputable def XE (C : Addr) (bx : Bx) (FLo : List Addr) (L : Addr) (hc : Heap) (G0 : Addr → Option Obj) (s : Shared) (r : RzS) : Value → Shared → Prop := fun e s' =>
  ∃ kd k' a, r = .exc kd k' ∧ e = .ref a ∧ Ot bx hc G0 (L :: FLo) FLo s'.heap k' ∧ Rest s s' ∧ ExcAt C false hc s'.heap a kd

/-- how an exception passes a loop -/
noncomputable def PlLoop (prog : Program) (w : World) (C : Addr) (bx : Bx) : Prop :=
  ∀ (A : Around) (FLo : List Addr) (L : Addr) (hc : Heap) (G0 : Addr → Option Obj) (ε : Env) (s' : Shared) (a : Addr) (kd : Str) (k : Nat) (E : Value → Shared → Prop),
    (∃ l, A.frames = some l ∧ l.map (·.frame) = (L :: FLo).map some ∧ ∀ e ∈ l, e.scope.kind ≠ .module) → ε.frame = some L → (∀ b o, G0 b = some o → hc.get? b = some o ∧ b ∉ L :: FLo) → Ot bx hc G0 (L :: FLo) FLo s'.heap k → ExcAt C false hc s'.heap a kd →
    (∀ s'', Rest s' s'' → Ot bx hc G0 (L :: FLo) FLo s''.heap k → ExcAt C false hc s''.heap a kd → E (.ref a) s'') →
    notedBy (model prog w) A ε (cameBackBy (model prog w) A ε E) (.ref a) s'

section
variable {prog : Program} {w : World} {K : Frag} {bx : Bx} {hb : Heap} {C : Addr} {A : Around} {FLo : List Addr} {L : Addr} {nn : Nat} {X0 : Addr → Prop} {hc : Heap} {G0 : Addr → Option Obj} {ε : Env} {s : Shared} {k : Nat} {ρ : Rho} {X : Addr → Prop} {σ : Str → Addr} {E : Value → Shared → Prop} {xc : Prop} {Φ : PhiT} {Γ : GamT} {n m : Nat}

theorem St.ot (T : St bx hb A FLo L nn X0 hc G0 ε s k ρ X σ) : Ot bx hc G0 (L :: FLo) FLo s.heap k := ⟨T.kp, T.cx.wd.box, T.cx.act.ns⟩

theorem PE.xe {α : Type} {r : Rz α} {r' : RzS} {e : Value} {s' : Shared} (T : St bx hb A FLo L nn X0 hc G0 ε s k ρ X σ) (hr : ∀ kd k, r = .exc kd k → r' = .exc kd k) (p : PE C bx (L :: FLo) s r e s') : XE C bx FLo L hc G0 s r' e s' := by
  obtain ⟨kd, k', a, e1, e2, st, x⟩ := p
  exact ⟨kd, k', a, hr _ _ e1, e2, (T.step st).ot, st.rest, x.lift T.kp.old⟩

theorem XE.up {s₀ s' : Shared} {r r' : RzS} {e : Value} (hr : ∀ kd k, r = .exc kd k → r' = .exc kd k) (h : Rest s₀ s) (p : XE C bx FLo L hc G0 s r e s') : XE C bx FLo L hc G0 s₀ r' e s' := by
  obtain ⟨kd, k', a, e1, e2, o, q, x⟩ := p
  exact ⟨kd, k', a, hr _ _ e1, e2, o, h.trans q, x⟩

theorem XQ.up {s₀ s' : Shared} {X₀ : Addr → Prop} {r r' : RzS} {f : Flow} (hr : ∀ p k, r = .ok p k → r' = .ok p k) (h : Rest s₀ s) (mv : Mv X₀ X s₀.heap s.heap) (lv : ∀ b, s.heap.get? b = none → s₀.heap.get? b = none) (p : XQ bx hb A FLo L nn X0 hc G0 ε s X r f s') :
    XQ bx hb A FLo L nn X0 hc G0 ε s₀ X₀ r' f s' := by
  cases f with
  | next =>
    obtain ⟨ρ', k', X', σ', e1, T, m, q, l⟩ := p
    exact ⟨ρ', k', X', σ', hr _ _ e1, T, mv.trans m lv, h.trans q, fun b e => lv b (l b e)⟩
  | ret v =>
    obtain ⟨d, ρ', k', e1, o, rp, q⟩ := p
    exact ⟨d, ρ', k', hr _ _ e1, o, rp, h.trans q⟩
  | brk => exact p
  | cont => exact p

noncomputable def SX (prog : Program) (w : World) (bx : Bx) (hb : Heap) (C : Addr) (A : Around) (FLo : List Addr) (L : Addr) (nn : Nat) (X0 : Addr → Prop) (hc : Heap) (G0 : Addr → Option Obj) (ε : Env) (xc : Prop) (Φ : PhiT) (Γ : GamT) (n : Nat) : Prop :=
  ∀ (m : Nat) (t : PySem.Stmt) (s : Shared) (k : Nat) (ρ : Rho) (X : Addr → Prop) (σ : Str → Addr), St bx hb A FLo L nn X0 hc G0 ε s k ρ X σ → (ex Φ Γ n ρ k (erS m ε.scope.names t)).good xc →
    wpAny (model prog w) A (exec t ε) (XQ bx hb A FLo L nn X0 hc G0 ε s X (ex Φ Γ n ρ k (erS m ε.scope.names t))) (XE C bx FLo L hc G0 s (ex Φ Γ n ρ k (erS m ε.scope.names t))) s

theorem exL_cons {f : Rho → Nat → S → RzS} {x : S} {r : List S} {ρ : Rho} {k : Nat} : exL f (x :: r) ρ k = (f ρ k x).bind fun p k => match p with
    | (.next, ρ) => exL f r ρ k
    | q => .ok q k := rfl

theorem exL_sound (H : SX prog w bx hb C A FLo L nn X0 hc G0 ε xc Φ Γ n) : ∀ (l : List PySem.Stmt) (s : Shared) (k : Nat) (ρ : Rho) (X : Addr → Prop) (σ : Str → Addr), St bx hb A FLo L nn X0 hc G0 ε s k ρ X σ →
    (exL (fun ρ k s => ex Φ Γ n ρ k s) (l.map (erS m ε.scope.names)) ρ k).good xc →
    wpAny (model prog w) A (execs l ε) (XQ bx hb A FLo L nn X0 hc G0 ε s X (exL (fun ρ k s => ex Φ Γ n ρ k s) (l.map (erS m ε.scope.names)) ρ k)) (XE C bx FLo L hc G0 s (exL (fun ρ k s => ex Φ Γ n ρ k s) (l.map (erS m ε.scope.names)) ρ k)) s
  | [], s, k, ρ, X, σ, T, hg => wpAny_execs_nil ⟨_, _, X, σ, rfl, T, Mv.refl, Rest.refl, fun _ e => e⟩
  | t :: r, s, k, ρ, X, σ, T, hg => by
    rw [List.map_cons, exL_cons] at hg ⊢
    refine wpAny_execs_cons (wpAny_mono (H m t s k ρ X σ T (Rz.good_bind hg)) (fun f s₁ h₁ => ?_) fun e s' h => h.up exc_bind Rest.refl)
    cases f with
    | next =>
      obtain ⟨ρ', k', X', σ', e1, T', mv, rs, lv⟩ := h₁
      rw [ok_bind e1] at hg ⊢
      exact wpAny_mono (exL_sound H r s₁ k' ρ' X' σ' T' hg) (fun f s' h => h.up (fun _ _ e => e) rs mv lv) fun e s' h => h.up (fun _ _ e => e) rs
    | ret v =>
      obtain ⟨d, ρ', k', e1, o, rp, rs⟩ := h₁
      rw [ok_bind e1]
      exact ⟨d, ρ', k', rfl, o, rp, rs⟩
    | brk => exact h₁.elim
    | cont => exact h₁.elim

/-- a name is given a value -/
theorem put_val (T : St bx hb A FLo L nn X0 hc G0 ε s k ρ X σ) {s₁ : Shared} {k₁ : Nat} (st : Step bx (L :: FLo) s s₁ k₁) {x : Str} (hl : lcl ε.scope.names x = true) {v : Value} {d : D} (r : Rep bx X s₁.heap v d) {q : RzS} (e : q = .ok (.next, Rho.put (tok x) (.val d) ρ) k₁) :
    wpAny (model prog w) A (storeName ε x v) (fun _ => XQ bx hb A FLo L nn X0 hc G0 ε s X q .next) E s₁ := by
  subst e
  refine (T.step st).store (u := .val d) hl ⟨r, rfl⟩ fun s' T' mv rs lv => ?_
  exact ⟨_, _, X, σ, rfl, T', (Step.mv T.cx st).trans mv (fun a e => st.old T.cx e), st.rest.trans rs, fun b e => st.old T.cx (lv b e)⟩

noncomputable def isComp : PySem.Expr → Bool
  | .ListComp _ _ _ _ | .SetComp _ _ _ _ | .DictComp _ _ _ _ _ => true
  | _ => false
theorem swaps_no {e : PySem.Expr} (h : isComp e = false) (t : Option PySem.Expr) (ln : Nat) : swapsWith e t ln ε = pure false := by
  cases e <;> first | rfl | cases h

theorem er_sc {sc : Sc} {a : PySem.Expr} {g : List Comprehension} {q : Scope} {p : Pos} : er m sc (.SetComp a g q p) = .other := by cases m <;> rfl
theorem er_dc {sc : Sc} {a b : PySem.Expr} {g : List Comprehension} {q : Scope} {p : Pos} : er m sc (.DictComp a b g q p) = .other := by cases m <;> rfl

theorem assign_sound (G : Gl prog w K hb C bx xc nn Φ Γ) (pl : xc → PlComp prog w C bx hb) {x : Str} {p pos : Pos} {e : PySem.Expr} (hl : lcl ε.scope.names x = true) (T : St bx hb A FLo L nn X0 hc G0 ε s k ρ X σ)
    (hg : ((ev Φ Γ n .val ρ k (er m ε.scope.names e)).bind fun d k => (Rz.ok (Fl.next, Rho.put (tok x) (.val d) ρ) k : RzS)).good xc) :
    wpAny (model prog w) A (exec (.Assign [.Name x p] e pos) ε) (XQ bx hb A FLo L nn X0 hc G0 ε s X ((ev Φ Γ n .val ρ k (er m ε.scope.names e)).bind fun d k => .ok (.next, Rho.put (tok x) (.val d) ρ) k)) (XE C bx FLo L hc G0 s ((ev Φ Γ n .val ρ k (er m ε.scope.names e)).bind fun d k => .ok (.next, Rho.put (tok x) (.val d) ρ) k)) s := by
  obtain ⟨HV, HT, HI⟩ := ev_sound (A := A) (FL := L :: FLo) G pl n
  have plain : swapsWith e (some (.Name x p)) pos.line ε = pure false → wpAny (model prog w) A (exec (.Assign [.Name x p] e pos) ε) (XQ bx hb A FLo L nn X0 hc G0 ε s X ((ev Φ Γ n .val ρ k (er m ε.scope.names e)).bind fun d k => .ok (.next, Rho.put (tok x) (.val d) ρ) k)) (XE C bx FLo L hc G0 s ((ev Φ Γ n .val ρ k (er m ε.scope.names e)).bind fun d k => .ok (.next, Rho.put (tok x) (.val d) ρ) k)) s := fun hs =>
    wpAny_Assign_Name (wpAny_mono (HV m _ ε ρ e X s k T.cx T.vw (Rz.good_bind hg)) (fun v s₁ ⟨d, k₁, e1, st, r⟩ => put_val T st hl r (ok_bind e1)) fun e s' h => h.xe T exc_bind) hs
  by_cases hcmp : isComp e = false
  · exact plain (swaps_no hcmp _ _)
  · cases e with
    | ListComp a gens scope q =>
      cases m with
      | zero => exact (not_other (Rz.good_bind hg)).elim
      | succ m =>
        cases hsw : (ε.blockKind == .function && ε.kindOf x == some .local && p.line == (PySem.Expr.ListComp a gens scope q).pos.line && !(scope.names.any fun (n, k) => n == x && (k == .local || k == .cell))) with
        | false =>
          refine plain ?_
          show (pure (ε.blockKind == .function && ε.kindOf x == some .local && p.line == (PySem.Expr.ListComp a gens scope q).pos.line && !(scope.names.any fun (n, k) => n == x && (k == .local || k == .cell))) : Sem Bool) = pure false
          rw [hsw]
        | true =>
          have hs : swapsWith (.ListComp a gens scope q) (some (.Name x p)) pos.line ε = pure true := by
            show (pure (ε.blockKind == .function && ε.kindOf x == some .local && p.line == (PySem.Expr.ListComp a gens scope q).pos.line && !(scope.names.any fun (n, k) => n == x && (k == .local || k == .cell))) : Sem Bool) = pure true
            rw [hsw]
          have hk : ε.kindOf x = some .local := by
            simp only [Bool.and_eq_true, beq_iff_eq] at hsw
            exact hsw.1.1.2
          -- the shape that is run
          have shape : ∃ y py it, gens = [⟨.Name y py, it, [], 0⟩] ∧ compOk ε.scope.names scope y = true := by
            have hg' := Rz.good_bind hg
            have I := er_inv m ε.scope.names (.ListComp a gens scope q)
            generalize er (m + 1) ε.scope.names (.ListComp a gens scope q) = xx at I hg'
            cases I with
            | comp _ y py it _ _ hO => exact ⟨y, py, it, rfl, hO⟩
            | other => exact (not_other hg').elim
          obtain ⟨y, py, it, rfl, hO⟩ := shape
          have O := CompOk.of hO
          rw [exec_Assign_Name_used _ _ _ _ hs]
          refine wpAny_bind (wpAny_standAt (wpAny_bind ?_))
          show wpAny _ A (do let _ ← comprehension (.ListComp a [⟨.Name y py, it, [], 0⟩] scope q) scope ε (firstIterPos [⟨.Name y py, it, [], 0⟩] q) (newList []) false (eval it ε) (some (assign (.Name x p) ε))) _ _ s
          cases n with
          | zero => exact (Rz.good_bind hg).elim
          | succ n =>
            obtain ⟨HV, HT, HI⟩ := ev_sound (A := A) (FL := L :: FLo) G pl n
            have e0 : ev Φ Γ (n + 1) .val ρ k (er (m + 1) ε.scope.names (.ListComp a [⟨.Name y py, it, [], 0⟩] scope q)) = ev Φ Γ (n + 1) .val ρ k (.comp (er m scope.names a) (tok y) (er m ε.scope.names it)) := by
              have : er (m + 1) ε.scope.names (.ListComp a [⟨.Name y py, it, [], 0⟩] scope q) = if compOk ε.scope.names scope y then .comp (er m scope.names a) (tok y) (er m ε.scope.names it) else .other := rfl
              rw [this, if_pos hO]
            rw [e0] at hg ⊢
            generalize hr : ev Φ Γ (n + 1) .val ρ k (.comp (er m scope.names a) (tok y) (er m ε.scope.names it)) = r at hg ⊢
            refine wpAny_bind (wpAny_mono (comp_sound (Q := fun _ s' => XQ bx hb A FLo L nn X0 hc G0 ε s X (r.bind fun d k => .ok (.next, Rho.put (tok x) (.val d) ρ) k) .next s') pl HI HV T.cx T.vw O (fun elts k' p' hq => ?_) (by rw [← hr]; rfl) (Rz.good_bind hg) ?_) (fun _ s' hq => wpAny_pure (wpAny_pure hq)) fun e s' h => h.xe T exc_bind)
            · subst hq
              have hg' := Rz.good_bind hg
              rw [← hr] at hg'
              have hg2 : ((ev Φ Γ n .iter ρ k (er m ε.scope.names (.Set elts k' p'))).bind fun d k => match d with
                | .list items => (evM (fun d k => ev Φ Γ n .val ((tok y, .val d) :: ρ) k (er m scope.names a)) items k).bind fun ys k => (Rz.ok (PyData.list ys) k : Rz D)
                | _ => .stuck).good xc := hg'
              rw [er_set] at hg2
              exact not_other (Rz.good_bind hg2)
            · intro D ys k' C' s' e1 st' rp hD hn hC₀ hD₀ hCD nXD
              obtain ⟨nD, vs, gD, rD⟩ := hD
              obtain ⟨m', hm'⟩ := hn
              show wpAny _ A (assign (.Name x p) ε (.ref D)) _ _ s'
              refine wpAny_assign_Name ((T.step st').store (u := .val (.list ys)) hl ⟨rp, rfl⟩ fun s'' T' mv rs lv => ?_)
              have nXC : ¬ X C' := (T.g0n hC₀).2.2.1
              obtain ⟨o, es, ep, a1, a2⟩ := hm'
              have hn2 : s''.heap.Ns C' m' := ⟨o, es, ep, mv.keep C' o nXC a1, a2⟩
              refine ⟨m', hn2, fun h' hs' => ?_⟩
              have hbz : hb.get? C' = none := by
                cases q : hb.get? C' with
                | none => rfl
                | some o => rw [T.cx.wd.base C' o q] at hC₀; cases hC₀
              have T2 := T'.turn (z := C') (h' := h') (tk := s''.toks) nXC (T.g0n hC₀).2.2.2.1 (T.g0n hC₀).1 (T.g0n hC₀).2.1 hbz ⟨o, mv.keep C' o nXC a1, (by intro _ _ q; rw [a2.1] at q; cases q), by intro _ q; rw [a2.1] at q; cases q⟩ hs'.extBut
              have lv2 : ∀ b, h'.get? b = none → s.heap.get? b = none := fun b e => by
                by_cases q : b = C'
                · rw [q]; exact hC₀
                · rw [hs'.2 b q] at e
                  exact st'.old T.cx (lv b e)
              refine ⟨_, _, _, σ, by rw [e1]; rfl, T2, ⟨fun b o nx e => ?_, fun a q => .inl q, fun a q => q⟩, st'.rest.trans (rs.trans ⟨h', s''.toks, rfl⟩), lv2⟩
              have nb : b ≠ C' := fun q => by rw [q, hC₀] at e; cases e
              show h'.get? b = some o
              rw [hs'.2 b nb]
              exact mv.keep b o nx ((Step.mv T.cx st').keep b o nx e)
    | SetComp => exact (not_other (er_sc ▸ Rz.good_bind hg)).elim
    | DictComp => exact (not_other (er_dc ▸ Rz.good_bind hg)).elim
    | _ => exact absurd rfl hcmp
end
end Mine

open PySem PySem.W PySem.Spec PySem.Calls PyProof.Rows
set_option Elab.async false
set_option maxRecDepth 100000
set_option linter.unusedVariables false
namespace Mine

section
variable {prog : Program} {w : World} {K : Frag} {bx : Bx} {hb : Heap} {C : Addr} {A : Around} {FLo : List Addr} {L : Addr} {nn : Nat} {X0 : Addr → Prop} {hc : Heap} {G0 : Addr → Option Obj} {ε : Env} {s : Shared} {k : Nat} {ρ : Rho} {X : Addr → Prop} {σ : Str → Addr} {E : Value → Shared → Prop} {xc : Prop} {Φ : PhiT} {Γ : GamT} {n m : Nat}

theorem exQ {Q Q' : Flow → Shared → Prop} {E' : Value → Shared → Prop} {t : Sem Flow} (h : wpAny (model prog w) A t Q E s) (e : Q = Q') (e2 : E = E') : wpAny (model prog w) A t Q' E' s := e ▸ e2 ▸ h

/-- `x = []` -/
theorem newL_sound {x : Str} {p pos p' : Pos} (hl : lcl ε.scope.names x = true) (T : St bx hb A FLo L nn X0 hc G0 ε s k ρ X σ) :
    wpAny (model prog w) A (exec (.Assign [.Name x p] (.List [] p') pos) ε) (XQ bx hb A FLo L nn X0 hc G0 ε s X (.ok (.next, Rho.put (tok x) (.own []) ρ) k)) (XE C bx FLo L hc G0 s (.ok (.next, Rho.put (tok x) (.own []) ρ) k)) s := by
  refine wpAny_Assign_Name ?_ rfl
  show wpAny _ A (do standAt p'; newList (← spliced [])) _ _ s
  refine wpAny_bind (wpAny_standAt (wpAny_bind (Calls.spliced_nil (wpAny_newList ?_ (by simp [sizeLine])))))
  have st : Step bx (L :: FLo) s { s with heap := s.heap.push { cls := .type "list", data := .seq (List.toArray []) } } k := T.cx.grow (tk := s.toks) fun b o e => Heap.get?_push_of_some _ e
  have hz := get_none_size s.heap
  have hz' : (s.heap.push { cls := .type "list", data := .seq (List.toArray ([] : List Value)) }).get? s.heap.objs.size = some { cls := .type "list", data := .seq (List.toArray ([] : List Value)) } := Heap.get?_push_size _ rfl
  have T1 := T.more st hz ⟨_, hz'⟩
  refine T1.store (u := .own []) (σ' := fun y => if y = x then s.heap.objs.size else σ y) hl ⟨s.heap.objs.size, [], 0, rfl, rfl, .inr rfl, fun q => (T.g0n hz).2.2.1 (T.x0 _ q), (T.g0n hz).1, (T.g0n hz).2.1, hz', .nil, (T.g0n hz).2.2.2.2, fun y l' ne hv q e => ?_, fun b bl xs eb e => ?_⟩ fun s' T' mv rs lv => ?_
  · obtain ⟨_, _, _, _, _, ⟨vs, n, e1, _⟩, _⟩ := T.own y l' hv q
    rw [e, hz] at e1; cases e1
  · have B := T.cx.wd.box
    subst eb
    obtain ⟨_, _, _, _, _, e2, _⟩ := B
    rw [← e, hz] at e2; cases e2
  · exact ⟨_, _, _, _, rfl, T', ⟨fun b o nx e => mv.keep b o (fun q => q.elim nx fun q => by rw [q, hz] at e; cases e) (st.ext.keep b o e (fun m => nx (T.cx.wd.flb b m)) fun xs z => nx (T.cx.wd.bxx b xs z)), fun a q => q.imp id fun q => by subst q; exact hz, fun a q => .inl q⟩, st.rest.trans rs, fun b e => st.old T.cx (lv b e)⟩

theorem frz_lookup {y : Nat} : ∀ {ρ : Rho}, (frz ρ).lookup y = (ρ.lookup y).map fun v => match v with | .val d => .val d | .own l => .val (.list l)
  | [] => rfl
  | (p1, p2) :: r => by
    show List.lookup y ((p1, _) :: frz r) = _
    rw [List.lookup_cons, List.lookup_cons]
    cases h : y == p1 with
    | true => rfl
    | false => exact frz_lookup

/-- `return e` -/
theorem ret_sound (G : Gl prog w K hb C bx xc nn Φ Γ) (pl : xc → PlComp prog w C bx hb) {e : PySem.Expr} {pos : Pos} (T : St bx hb A FLo L nn X0 hc G0 ε s k ρ X σ)
    (hg : ((ev Φ Γ n .val (frz ρ) k (er m ε.scope.names e)).bind fun d k => (Rz.ok (Fl.ret d, ρ) k : RzS)).good xc) :
    wpAny (model prog w) A (exec (.Return (some e) pos) ε) (XQ bx hb A FLo L nn X0 hc G0 ε s X ((ev Φ Γ n .val (frz ρ) k (er m ε.scope.names e)).bind fun d k => .ok (.ret d, ρ) k)) (XE C bx FLo L hc G0 s ((ev Φ Γ n .val (frz ρ) k (er m ε.scope.names e)).bind fun d k => .ok (.ret d, ρ) k)) s := by
  obtain ⟨HV, HT, HI⟩ := ev_sound (A := A) (FL := L :: FLo) G pl n
  have sub : ∀ a o, ¬ X a → s.heap.get? a = some o → ¬ (X a ∧ ∀ x l, vis ε.scope.names x = true → ρ.lookup (tok x) = some (.own l) → a ≠ σ x) ∧ s.heap.get? a = some o := fun a o nx e => ⟨fun q => nx q.1, e⟩
  have hfl := fun y => frz_lookup (ρ := ρ) (y := y)
  have c' : Cx bx hb A (L :: FLo) nn (fun a => X a ∧ ∀ x l, vis ε.scope.names x = true → ρ.lookup (tok x) = some (.own l) → a ≠ σ x) s k := ⟨T.cx.act, ⟨T.cx.wd.base, fun b m => ⟨T.cx.wd.flb b m, fun x l hv q z => by
      obtain ⟨_, _, _, _, _, ⟨vs, n, e1, _⟩, _⟩ := T.own x l hv q
      obtain ⟨_, o', es, ep, q', hd', _⟩ := T.cx.act.ns b m
      rw [z, e1] at q'; cases q'
      cases hd'⟩, fun a q => T.cx.wd.xok a q.1, T.cx.wd.box, fun b xs z => ⟨T.cx.wd.bxx b xs z, fun x l hv q z' => by
      obtain ⟨_, _, _, _, _, _, a7⟩ := T.own x l hv q
      exact a7 xs (z' ▸ z)⟩⟩, T.cx.fl⟩
  have V' : Vw bx (L :: FLo) (fun a => X a ∧ ∀ x l, vis ε.scope.names x = true → ρ.lookup (tok x) = some (.own l) → a ≠ σ x) ε ε.scope.names s.heap (frz ρ) := { T.vw with
    vars := fun x d hv q => by
      rw [hfl] at q
      cases hq : ρ.lookup (tok x) with
      | none => rw [hq] at q; cases q
      | some u =>
        rw [hq] at q
        cases u with
        | val d' =>
          cases q
          obtain ⟨v, H, r⟩ := T.vw.vars x d hv hq
          exact ⟨v, H, r.map sub fun _ _ z => z⟩
        | own l =>
          cases q
          obtain ⟨H, _, _, _, _, ⟨vs, n, e1, r⟩, _⟩ := T.own x l hv hq
          exact ⟨_, H, .lst (fun z => z.2 x l hv hq rfl) e1 (r.map sub fun _ _ z => z)⟩
    owns := fun x l hv q => by
      rw [hfl] at q
      cases hq : ρ.lookup (tok x) with
      | none => rw [hq] at q; cases q
      | some u =>
        rw [hq] at q
        cases u <;> cases q }
  refine wpAny_Return_some (wpAny_mono (HV m _ ε (frz ρ) e _ s k c' V' (Rz.good_bind hg)) (fun v s₁ ⟨d, k₁, e1, st, r⟩ => ?_) fun e s' h => h.xe T exc_bind)
  refine ⟨d, ρ, k₁, ok_bind e1, (T.step st).ot, r.map (fun a o nx e => ⟨fun z => nx ⟨T.x0 a z, fun x l hv q z' => ?_⟩, e⟩) fun _ _ z => z, st.rest⟩
  exact (T.own x l hv q).2.2.1 (z' ▸ z)

/-- `x.append(e)` -/
theorem app_sound (G : Gl prog w K hb C bx xc nn Φ Γ) (pl : xc → PlComp prog w C bx hb) {x : Str} {p ap cp p' : Pos} {e : PySem.Expr} {l : List D} (hl : lcl ε.scope.names x = true) (hap : ap.endLine = cp.line) (hst : isStar e = false) (hx : ρ.lookup (tok x) = some (.own l)) (hsz : l.length ≤ 1000000)
    (T : St bx hb A FLo L nn X0 hc G0 ε s k ρ X σ) (hg : ((ev Φ Γ n .val ρ k (er m ε.scope.names e)).bind fun d k => (Rz.ok (Fl.next, Rho.put (tok x) (.own (l ++ [d])) ρ) k : RzS)).good xc) :
    wpAny (model prog w) A (exec (.Expr (.Call (.Attribute (.Name x p) "append" ap) [e] [] cp) p') ε) (XQ bx hb A FLo L nn X0 hc G0 ε s X ((ev Φ Γ n .val ρ k (er m ε.scope.names e)).bind fun d k => .ok (.next, Rho.put (tok x) (.own (l ++ [d])) ρ) k)) (XE C bx FLo L hc G0 s ((ev Φ Γ n .val ρ k (er m ε.scope.names e)).bind fun d k => .ok (.next, Rho.put (tok x) (.own (l ++ [d])) ρ) k)) s := by
  obtain ⟨HV, HT, HI⟩ := ev_sound (A := A) (FL := L :: FLo) G pl n
  obtain ⟨H, Xz, _, _, _, ⟨vs, nz, ez, rz⟩, bz⟩ := T.own x l (lcl_vis hl) hx
  have nf : σ x ∉ L :: FLo := fun m => by
    obtain ⟨_, o', es, ep, q', hd', _⟩ := T.cx.act.ns _ m
    rw [ez] at q'; cases q'
    cases hd'
  have hs : starEach [e] ε = [(false, eval e ε)] := by
    rw [star_plain fun a p q => by subst q; cases hst]
    rfl
  refine wpAny_Expr (wpAny_Call_append rfl (by rw [hs]; rfl) (by simp [hap]) (by rw [hs]; rfl) (name_var T.vw (lcl_vis hl) H ⟨σ x, _, rfl, ⟨_, _, ez, rfl, rfl, rfl⟩, ?_⟩)) (by unfold interactive; rw [T.vw.ek]; rfl) rfl
  refine wpAny_mono (HV m _ ε ρ e X s k T.cx T.vw (Rz.good_bind hg)) (fun v s₁ ⟨d, k₁, e1, st, r⟩ => ?_) fun e s' h => h.xe T exc_bind
  have T1 := T.step st
  have ez1 := st.ext.keep _ _ ez nf bz
  rw [ok_bind e1]
  refine append_at ez1 (fun h' hs hn => ?_) (by rw [List.size_toArray, rz.length]; exact Nat.le_trans hsz (by simp [sizeLine]))
  have T2 := T1.push (lcl_vis hl) hx r (h' := h') (tk := s₁.toks) hs.extBut (fun vs' n' q => by
    rw [ez1] at q
    injection q with q
    injection q with _ _ q
    injection q with q q2
    refine ⟨nz + 1, ?_⟩
    rw [hn]
    have : vs = vs' := by simpa using q
    subst this
    simp)
  have lv : ∀ b, h'.get? b = none → s₁.heap.get? b = none := fun b q => by
    by_cases z : b = σ x
    · subst z; rw [hn] at q; cases q
    · rw [← hs.2 b z]; exact q
  exact ⟨_, _, X, σ, rfl, T2, (Step.mv T.cx st).trans ⟨fun b o nx q => hs.extBut b o (fun z => nx (z ▸ Xz)) q, fun a q => .inl q, fun a q => q⟩ (fun a q => st.old T.cx q), st.rest.trans ⟨h', s₁.toks, rfl⟩, fun b q => st.old T.cx (lv b q)⟩

/-- `if` -/
theorem ite_sound (G : Gl prog w K hb C bx xc nn Φ Γ) (pl : xc → PlComp prog w C bx hb) (H : SX prog w bx hb C A FLo L nn X0 hc G0 ε xc Φ Γ n) {c : PySem.Expr} {a b : List PySem.Stmt} {pos : Pos} (T : St bx hb A FLo L nn X0 hc G0 ε s k ρ X σ)
    {r : RzS} (hr : r = (ev Φ Γ n .test ρ k (er m ε.scope.names c)).bind fun d k => match d with
      | .bool true => exL (fun ρ k s => ex Φ Γ n ρ k s) (a.map (erS m ε.scope.names)) ρ k
      | .bool false => exL (fun ρ k s => ex Φ Γ n ρ k s) (b.map (erS m ε.scope.names)) ρ k
      | _ => .stuck) (hg : r.good xc) :
    wpAny (model prog w) A (exec (.If c a b pos) ε) (XQ bx hb A FLo L nn X0 hc G0 ε s X r) (XE C bx FLo L hc G0 s r) s := by
  subst hr
  obtain ⟨HV, HT, HI⟩ := ev_sound (A := A) (FL := L :: FLo) G pl n
  refine wpAny_If (wpAny_mono (HT m _ ε ρ c X s k T.cx T.vw (Rz.good_bind hg)) (fun v s₁ ⟨k₁, e1, st⟩ => ?_) fun e s' h => h.xe T exc_bind)
  rw [ok_bind e1] at hg ⊢
  have T1 := T.step st
  have up : ∀ {l : List PySem.Stmt}, (exL (fun ρ k s => ex Φ Γ n ρ k s) (l.map (erS m ε.scope.names)) ρ k₁).good xc → wpAny (model prog w) A (execs l ε) (XQ bx hb A FLo L nn X0 hc G0 ε s X (exL (fun ρ k s => ex Φ Γ n ρ k s) (l.map (erS m ε.scope.names)) ρ k₁)) (XE C bx FLo L hc G0 s (exL (fun ρ k s => ex Φ Γ n ρ k s) (l.map (erS m ε.scope.names)) ρ k₁)) s₁ := fun hg =>
    wpAny_mono (exL_sound H _ s₁ k₁ ρ X σ T1 hg) (fun f s' h => h.up (fun _ _ e => e) st.rest (Step.mv T.cx st) (fun b q => st.old T.cx q)) fun e s' h => h.up (fun _ _ e => e) st.rest
  cases v with
  | true => exact up hg
  | false => exact up hg
end
end Mine

open PySem PySem.W PySem.Spec PySem.Calls PyProof.Rows
set_option Elab.async false
set_option maxRecDepth 100000
set_option linter.unusedVariables false
namespace Mine

theorem putAll_congr : ∀ (xs : List Nat) (ds : List D) {ρ ρ' : Rho}, (∀ y, ρ.lookup y = ρ'.lookup y) → ∀ y, (putAll xs ds ρ).lookup y = (putAll xs ds ρ').lookup y
  | [], _, _, _, h, y => h y
  | _ :: _, [], _, _, h, y => h y
  | x :: xs, d :: ds, _, _, h, y => putAll_congr xs ds (fun z => by rw [lookup_put, lookup_put, h z]) y

theorem putAll_put {x : Nat} {u : Var} : ∀ (xs : List Nat) (ds : List D) (ρ : Rho), x ∉ xs → ∀ y, (putAll xs ds (Rho.put x u ρ)).lookup y = (Rho.put x u (putAll xs ds ρ)).lookup y
  | [], _, _, _, _ => rfl
  | _ :: _, [], _, _, _ => rfl
  | z :: xs, d :: ds, ρ, h, y => by
    have hz : z ≠ x := fun q => h (q ▸ .head _)
    show (putAll xs ds (Rho.put z _ (Rho.put x u ρ))).lookup y = (Rho.put x u (putAll xs ds (Rho.put z _ ρ))).lookup y
    rw [← putAll_put xs ds _ (fun q => h (.tail _ q)) y]
    refine putAll_congr xs ds (fun y => ?_) y
    simp only [lookup_put]
    by_cases h1 : y = z
    · subst h1; simp [hz]
    · simp [h1]

theorem putAll_snoc {x : Nat} {d : D} : ∀ (xs : List Nat) (ds : List D) (ρ : Rho), xs.length = ds.length → putAll (xs ++ [x]) (ds ++ [d]) ρ = Rho.put x (.val d) (putAll xs ds ρ)
  | [], [], _, _ => rfl
  | [], _ :: _, _, h => by cases h
  | _ :: _, [], _, h => by cases h
  | z :: xs, e :: ds, ρ, h => putAll_snoc xs ds _ (by simpa using h)

theorem nodupB_iff : ∀ {xs : List Str}, nodupB xs = true → xs.Nodup
  | [], _ => .nil
  | x :: r, h => by
    unfold nodupB at h
    simp only [Bool.and_eq_true, Bool.not_eq_true', List.contains_eq_mem, decide_eq_false_iff_not] at h
    exact .cons (fun y hy q => h.1 (q ▸ hy)) (nodupB_iff h.2)

theorem putAll_rev : ∀ (xs : List Nat) (ds : List D) (ρ : Rho), xs.length = ds.length → xs.Nodup → ∀ y, (putAll xs.reverse ds.reverse ρ).lookup y = (putAll xs ds ρ).lookup y
  | [], [], _, _, _, _ => rfl
  | [], _ :: _, _, h, _, _ => by cases h
  | _ :: _, [], _, h, _, _ => by cases h
  | x :: xs, d :: ds, ρ, h, nd, y => by
    have h' : xs.length = ds.length := by simpa using h
    rw [List.nodup_cons] at nd
    rw [List.reverse_cons, List.reverse_cons, putAll_snoc _ _ _ (by simpa using h')]
    show _ = (putAll xs ds (Rho.put x (.val d) ρ)).lookup y
    rw [putAll_put xs ds ρ nd.1 y, lookup_put, lookup_put, putAll_rev xs ds ρ h' nd.2 y]

section
variable {prog : Program} {w : World} {K : Frag} {bx : Bx} {hb : Heap} {C : Addr} {A : Around} {FLo : List Addr} {L : Addr} {nn : Nat} {X0 : Addr → Prop} {hc : Heap} {G0 : Addr → Option Obj} {ε : Env} {s : Shared} {k : Nat} {ρ : Rho} {X : Addr → Prop} {σ : Str → Addr} {E : Value → Shared → Prop} {xc : Prop} {Φ : PhiT} {Γ : GamT} {n m : Nat}

noncomputable def Stores (prog : Program) (w : World) (A : Around) (ε : Env) : List Str → List (Value → Sem Unit) → Prop
  | [], [] => True
  | x :: xs, t :: ts => (∀ v (Q : Unit → Shared → Prop) (E : Value → Shared → Prop) s, wpAny (model prog w) A (storeName ε x v) Q E s → wpAny (model prog w) A (t v) Q E s) ∧ Stores prog w A ε xs ts
  | _, _ => False

theorem Stores.binds : ∀ (xs : List Str), Stores prog w A ε xs (xs.map fun n => bindName ε n)
  | [] => trivial
  | x :: xs => ⟨fun v Q E s h => bindName_ h, Stores.binds xs⟩

theorem Stores.each : ∀ {ts : List PySem.Expr} {xs : List Str}, tsNames ε.scope.names ts = some xs → Stores prog w A ε xs ((assignEach ts ε).map (·.2)) ∧ (assignEach ts ε).length = xs.length ∧ ((assignEach ts ε).findIdx? (·.1)) = none ∧ ∀ x ∈ xs, lcl ε.scope.names x = true
  | [], xs, h => by
    cases h
    exact ⟨trivial, rfl, rfl, nofun⟩
  | t :: r, xs, h => by
    cases t with
    | Name x p =>
      unfold tsNames at h
      split at h
      · rename_i hl
        cases hr : tsNames ε.scope.names r with
        | none => rw [hr] at h; cases h
        | some ys =>
          rw [hr] at h
          cases h
          obtain ⟨a, b, c, d⟩ := Stores.each hr
          refine ⟨⟨fun v Q E s h => assign_Name h, a⟩, congrArg (· + 1) b, ?_, fun y hy => ?_⟩
          · show List.findIdx? _ ((false, assign (.Name x p) ε) :: assignEach r ε) = none
            rw [List.findIdx?_cons]
            simp [c]
          · rcases List.mem_cons.mp hy with q | q
            · exact q ▸ hl
            · exact d y q
      · cases h
    | _ => cases h

theorem storeAll : ∀ (xs : List Str) (ts : List (Value → Sem Unit)) (vs : List Value) (ds : List D) (s : Shared) (ρ : Rho) (Q : Unit → Shared → Prop), St bx hb A FLo L nn X0 hc G0 ε s k ρ X σ → Stores prog w A ε xs ts → (∀ x ∈ xs, lcl ε.scope.names x = true) → RepL bx X s.heap vs ds → ds.length = xs.length →
    (∀ s', St bx hb A FLo L nn X0 hc G0 ε s' k (putAll (xs.map tok) ds ρ) X σ → Mv X X s.heap s'.heap → Rest s s' → (∀ b, s'.heap.get? b = none → s.heap.get? b = none) → Q () s') →
    wpAny (model prog w) A (assignInOrder ts vs) Q E s
  | [], [], vs, ds, s, ρ, Q, T, S, hl, r, e, h => by
    show wpAny _ _ (pure ()) _ _ _
    cases ds with
    | nil => exact wpAny_pure (h s T Mv.refl Rest.refl fun _ e => e)
    | cons => cases e
  | [], t :: ts, _, _, _, _, _, _, S, _, _, _, _ => S.elim
  | x :: xs, [], _, _, _, _, _, _, S, _, _, _, _ => S.elim
  | x :: xs, t :: ts, [], ds, s, ρ, Q, T, S, hl, r, e, h => by
    cases r
    cases e
  | x :: xs, t :: ts, v :: vs, [], s, ρ, Q, T, S, hl, r, e, h => by cases e
  | x :: xs, t :: ts, v :: vs, d :: ds, s, ρ, Q, T, S, hl, r, e, h => by
    cases r with
    | cons rv r =>
      show wpAny _ _ (do holding vs (t v); assignInOrder ts vs) _ _ _
      refine wpAny_bind (wpAny_holding (S.1 v _ _ _ (T.store (u := .val d) (hl x (.head _)) ⟨rv, rfl⟩ fun s' T' mv rs lv => ?_)))
      refine storeAll xs ts vs ds s' _ Q T' S.2 (fun y hy => hl y (.tail _ hy)) (r.map (fun a o nx e => ⟨nx, mv.keep a o nx e⟩) fun _ _ z => z) (by simpa using e) fun s'' T'' mv' rs' lv' => ?_
      exact h s'' T'' (mv.trans mv' lv) (rs.trans rs') fun b e => lv b (lv' b e)

noncomputable def seqD : D → Option (List D)
  | .tuple ds => some ds
  | .list ds => some ds
  | _ => none

theorem unpack_sound (c : Cx bx hb A (L :: FLo) nn X s k) {v : Value} {d : D} {ds : List D} (r : Rep bx X s.heap v d) (hd : seqD d = some ds) {Q : List Value → Shared → Prop}
    (h : ∀ vs h', (∀ b o, s.heap.get? b = some o → h'.get? b = some o) → RepL bx X h' vs ds → Q vs { s with heap := h' }) : wpAny (model prog w) A (unpackItems v ds.length none) Q E s := by
  have fin : ∀ vs h', Heap.ExtBut s.heap.objs.size s.heap h' → RepL bx X s.heap vs ds → Q vs { s with heap := h' } := fun vs h' he r => by
    have g : ∀ b o, s.heap.get? b = some o → h'.get? b = some o := fun b o e => he b o (Nat.ne_of_lt (Heap.lt_size e)) e
    exact h vs h' g (r.map (fun a o nx e => ⟨nx, g a o e⟩) fun _ _ z => z)
  cases r with
  | tup nx e cl dt q =>
    cases hd
    rename_i a o vs nn
    have : ds.length = vs.toArray.size := by rw [List.size_toArray, q.length]
    rw [this]
    exact unpackItems_tuple c.act.hd ⟨o, e, cl, nn, dt⟩ fun h' he => by simpa using fin vs h' he q
  | lst nx e q =>
    cases hd
    rename_i a vs nn
    have : ds.length = vs.toArray.size := by rw [List.size_toArray, q.length]
    rw [this]
    exact kun_itemsOf c.act.hd ⟨_, e, rfl, nn, rfl⟩ fun h' he => by simpa using fin vs h' he q
  | _ => cases hd

theorem swapped_cases {ts : List PySem.Expr} {kk : Nat} {p : Pos} {e : PySem.Expr} {xs : List Str} (hn : tsNames ε.scope.names ts = some xs) (hc : constOk e = true) :
    swappedStores [.Tuple ts kk p] e ε = pure none ∨ swappedStores [.Tuple ts kk p] e ε = pure (some xs) := by
  cases e with
  | Tuple vs k2 p2 =>
    have hk : ∀ (ts : List PySem.Expr) (xs : List Str), tsNames ε.scope.names ts = some xs → ∀ line : Nat, (ts.filterMap fun
      | .Name id pos => if ε.kindOf id == some .local && pos.line == line then some id else none
      | _ => none).length = ts.length → (ts.filterMap fun
      | .Name id pos => if ε.kindOf id == some .local && pos.line == line then some id else none
      | _ => none) = xs := by
      intro ts
      induction ts with
      | nil => intro xs h line _; cases h; rfl
      | cons t r ih =>
        intro xs h line hlen
        cases t with
        | Name x p =>
          unfold tsNames at h
          split at h
          · cases hr : tsNames ε.scope.names r with
            | none => rw [hr] at h; cases h
            | some ys =>
              rw [hr] at h
              cases h
              rw [List.filterMap_cons] at hlen ⊢
              have hle := List.length_filterMap_le (fun
                | .Name id pos => if ε.kindOf id == some .local && pos.line == line then some id else none
                | _ => none : PySem.Expr → Option Str) r
              by_cases hb : (ε.kindOf x == some .local && p.line == line) = true
              · simp only [hb, if_true] at hlen ⊢
                rw [ih ys hr line (by simpa using hlen)]
              · simp only [hb] at hlen ⊢
                simp only [Bool.false_eq_true, if_false, List.length_cons] at hlen
                omega
          · cases h
        | _ => cases h
    unfold swappedStores
    simp only
    split
    · exact .inl rfl
    · split
      · exact .inl rfl
      · split
        · exact .inl rfl
        · rename_i h3
          split
          · exact .inl rfl
          · rename_i h4
            split
            · rename_i h5
              exfalso
              unfold constOk at hc
              simp only [h5, Bool.not_true, Bool.false_or] at hc
              exact h4 hc
            · right
              have := hk ts xs hn _ (by
                simp only [Bool.or_eq_true, bne_iff_ne, ne_eq, not_or, Decidable.not_not] at h3
                exact h3.1)
              exact congrArg (fun l => (pure (some l) : Sem (Option (List Str)))) this
  | _ => exact .inl rfl
end
end Mine

open PySem PySem.W PySem.Spec PySem.Calls PyProof.Rows
set_option Elab.async false
set_option maxRecDepth 100000
set_option linter.unusedVariables false
namespace Mine

section
variable {prog : Program} {w : World} {K : Frag} {bx : Bx} {hb : Heap} {C : Addr} {A : Around} {FLo : List Addr} {L : Addr} {nn : Nat} {X0 : Addr → Prop} {hc : Heap} {G0 : Addr → Option Obj} {ε : Env} {s : Shared} {k : Nat} {ρ : Rho} {X : Addr → Prop} {σ : Str → Addr} {E : Value → Shared → Prop} {xc : Prop} {Φ : PhiT} {Γ : GamT} {n m : Nat}

theorem sole_no {ts : List PySem.Expr} {kk : Nat} {p : Pos} {e : PySem.Expr} {ln : Nat} : swapsWithSole [.Tuple ts kk p] e ln ε = pure false := by cases e <;> rfl

theorem mass_sound (G : Gl prog w K hb C bx xc nn Φ Γ) (pl : xc → PlComp prog w C bx hb) {ts : List PySem.Expr} {kk : Nat} {xs : List Str} {p pos : Pos} {e : PySem.Expr} (hn : tsNames ε.scope.names ts = some xs) (hc' : constOk e = true) (nd : nodupB xs = true) (T : St bx hb A FLo L nn X0 hc G0 ε s k ρ X σ)
    {r : RzS} (hr : r = (ev Φ Γ n .val ρ k (er m ε.scope.names e)).bind fun d k => match d with
      | .tuple ds => if ds.length = (xs.map tok).length then .ok (.next, putAll (xs.map tok) ds ρ) k else .stuck
      | .list ds => if ds.length = (xs.map tok).length then .ok (.next, putAll (xs.map tok) ds ρ) k else .stuck
      | _ => .stuck) (hg : r.good xc) :
    wpAny (model prog w) A (exec (.Assign [.Tuple ts kk p] e pos) ε) (XQ bx hb A FLo L nn X0 hc G0 ε s X r) (XE C bx FLo L hc G0 s r) s := by
  obtain ⟨HV, HT, HI⟩ := ev_sound (A := A) (FL := L :: FLo) G pl n
  obtain ⟨hS, hlen, hstar, hall⟩ := Stores.each (prog := prog) (w := w) (A := A) hn
  have nd' : (xs.map tok).Nodup := List.Pairwise.map tok (fun a b h e => h (tok_inj e)) (nodupB_iff nd)
  have main : wpAny (model prog w) A (eval e ε) (fun v s₁ => ∃ ds k₁, r = .ok (.next, putAll (xs.map tok) ds ρ) k₁ ∧ ds.length = xs.length ∧ Step bx (L :: FLo) s s₁ k₁ ∧ ∃ d, seqD d = some ds ∧ Rep bx X s₁.heap v d) (XE C bx FLo L hc G0 s r) s := by
    subst hr
    refine wpAny_mono (HV m _ ε ρ e X s k T.cx T.vw (Rz.good_bind hg)) (fun v s₁ ⟨d, k₁, e1, st, r⟩ => ?_) fun e s' h => h.xe T exc_bind
    rw [ok_bind e1] at hg ⊢
    cases d with
    | tuple ds =>
      dsimp only at hg ⊢
      split at hg
      · rename_i hq
        exact ⟨ds, k₁, if_pos hq, by simpa using hq, st, _, rfl, r⟩
      · exact hg.elim
    | list ds =>
      dsimp only at hg ⊢
      split at hg
      · rename_i hq
        exact ⟨ds, k₁, if_pos hq, by simpa using hq, st, _, rfl, r⟩
      · exact hg.elim
    | _ => exact hg.elim
  clear hr
  have fin : ∀ {s₁ : Shared} {k₁ : Nat} {h' : Heap} {ds : List D} {ρ' : Rho} {s' : Shared} {rr : RzS}, rr = .ok (.next, putAll (xs.map tok) ds ρ) k₁ → Step bx (L :: FLo) s s₁ k₁ → (∀ b o, s₁.heap.get? b = some o → h'.get? b = some o) → Cx bx hb A (L :: FLo) nn X s₁ k₁ → (∀ y, (putAll (xs.map tok) ds ρ).lookup y = ρ'.lookup y) →
      St bx hb A FLo L nn X0 hc G0 ε s' k₁ ρ' X σ → Mv X X h' s'.heap → Rest { s₁ with heap := h' } s' → (∀ b, s'.heap.get? b = none → h'.get? b = none) → XQ bx hb A FLo L nn X0 hc G0 ε s X rr .next s' := fun {s₁ _ _ _ _ _ _} e st g c he T' mv rs lv => by
    subst e
    have st' := st.trans (c.grow (tk := s₁.toks) g)
    exact ⟨_, _, X, σ, rfl, T'.names he, (Step.mv T.cx st').trans mv (fun a q => st'.old T.cx q), st'.rest.trans rs, fun b q => st'.old T.cx (lv b q)⟩
  rcases swapped_cases (kk := kk) (p := p) hn hc' with hw | hw
  · refine Assign_Tuple (wpAny_mono main (fun v s₁ ⟨ds, k₁, e1, hq, st, d, hd, r⟩ => ?_) fun _ _ h => h) sole_no hw
    rw [assign_Tuple]
    refine wpAny_bind (wpAny_standAt ?_)
    unfold unpack
    rw [hlen, hstar, ← hq]
    have T1 := T.step st
    refine wpAny_bind (wpAny_holding (unpack_sound T1.cx r hd fun vs h' g r' => ?_))
    have T2 := T1.step (T1.cx.grow (tk := s₁.toks) g)
    exact storeAll xs _ vs ds _ ρ _ T2 hS hall r' hq fun s' T' mv rs lv => fin e1 st g T1.cx (fun _ => rfl) T' mv rs lv
  · refine Assign_Tuple_swapped (wpAny_mono main (fun v s₁ ⟨ds, k₁, e1, hq, st, d, hd, r⟩ => ?_) fun _ _ h => h) sole_no hw
    have T1 := T.step st
    rw [← hq]
    refine unpack_sound T1.cx r hd fun vs h' g r' => ?_
    have T2 := T1.step (T1.cx.grow (tk := s₁.toks) g)
    have r'' : RepL bx X h' vs.reverse ds.reverse := by
      have : ∀ {vs : List Value} {ds : List D}, RepL bx X h' vs ds → RepL bx X h' vs.reverse ds.reverse := by
        intro vs
        induction vs with
        | nil => intro ds r; cases r; exact .nil
        | cons v vs ih =>
          intro ds r
          cases r with
          | cons a r =>
            rw [List.reverse_cons, List.reverse_cons]
            exact (ih r).append (.cons a .nil)
      exact this r'
    exact storeAll xs.reverse _ vs.reverse ds.reverse _ ρ _ T2 (Stores.binds _) (fun x hx => hall x (List.mem_reverse.mp hx)) r'' (by simpa using hq) fun s' T' mv rs lv => fin e1 st g T1.cx (fun y => by rw [List.map_reverse]; exact (putAll_rev (xs.map tok) ds ρ (by simpa using hq.symm) nd' y).symm) T' mv rs lv

/-- a call for its own sake -/
theorem eval_sound (G : Gl prog w K hb C bx xc nn Φ Γ) (pl : xc → PlComp prog w C bx hb) {f : Str} {fp cp p' : Pos} {args : List PySem.Expr} (T : St bx hb A FLo L nn X0 hc G0 ε s k ρ X σ)
    {r : RzS} (hr : r = (ev Φ Γ n .val ρ k (er m ε.scope.names (.Call (.Name f fp) args [] cp))).bind fun d k => match d with
      | .none => .ok (.next, ρ) k
      | _ => .stuck) (hg : r.good xc) :
    wpAny (model prog w) A (exec (.Expr (.Call (.Name f fp) args [] cp) p') ε) (XQ bx hb A FLo L nn X0 hc G0 ε s X r) (XE C bx FLo L hc G0 s r) s := by
  subst hr
  obtain ⟨HV, HT, HI⟩ := ev_sound (A := A) (FL := L :: FLo) G pl n
  refine wpAny_Expr (wpAny_mono (HV m _ ε ρ _ X s k T.cx T.vw (Rz.good_bind hg)) (fun v s₁ ⟨d, k₁, e1, st, r⟩ => ?_) fun e s' h => h.xe T exc_bind) (by unfold interactive; rw [T.vw.ek]; rfl) rfl
  rw [ok_bind e1] at hg ⊢
  cases r with
  | none => exact ⟨_, _, X, σ, rfl, T.step st, Step.mv T.cx st, st.rest, fun b e => st.old T.cx e⟩
  | _ => exact hg.elim

theorem brk_no {r : RzS} {s' : Shared} (h : XQ bx hb A FLo L nn X0 hc G0 ε s X r .brk s') : False := h

theorem exc_good {α : Type} {r : Rz α} {kd : Str} {k : Nat} (e : r = .exc kd k) (h : r.good xc) : xc := by rw [e] at h; exact h
theorem nFL (T : St bx hb A FLo L nn X0 hc G0 ε s k ρ X σ) {b : Addr} {o : Obj} (e : G0 b = some o) : b ∉ L :: FLo := fun q => by
  rcases List.mem_cons.mp q with z | z
  · rw [z, T.gL.1] at e; cases e
  · exact (T.g1 b o e).1 z
/-- `while` -/
theorem whl_sound (G : Gl prog w K hb C bx xc nn Φ Γ) (pl : xc → PlComp prog w C bx hb) (pq : xc → PlLoop prog w C bx) (H : SX prog w bx hb C A FLo L nn X0 hc G0 ε xc Φ Γ n) {c : PySem.Expr} {b : List PySem.Stmt} {pos : Pos} {j : Nat} (T : St bx hb A FLo L nn X0 hc G0 ε s k ρ X σ)
    {r : RzS} (hr : r = exW (fun ρ k => ev Φ Γ n .test ρ k (er m ε.scope.names c)) (fun ρ k => exL (fun ρ k s => ex Φ Γ n ρ k s) (b.map (erS m ε.scope.names)) ρ k) j ρ k) (hg : r.good xc) :
    wpAny (model prog w) A (exec (.While c b [] pos) ε) (XQ bx hb A FLo L nn X0 hc G0 ε s X r) (XE C bx FLo L hc G0 s r) s := by
  obtain ⟨HV, HT, HI⟩ := ev_sound (A := A) (FL := L :: FLo) G pl n
  refine wpAny_While (codeAny_whileLoop (fun j s' => ∃ ρ' k' X' σ', r = exW (fun ρ k => ev Φ Γ n .test ρ k (er m ε.scope.names c)) (fun ρ k => exL (fun ρ k s => ex Φ Γ n ρ k s) (b.map (erS m ε.scope.names)) ρ k) j ρ' k' ∧ St bx hb A FLo L nn X0 hc G0 ε s' k' ρ' X' σ' ∧ Mv X X' s.heap s'.heap ∧ Rest s s' ∧ ∀ a, s'.heap.get? a = none → s.heap.get? a = none) (fun j s₀ ⟨ρ₀, k₀, X₀, σ₀, er0, T0, mv0, rs0, lv0⟩ => ?_) j ⟨ρ, k, X, σ, hr, T, Mv.refl, Rest.refl, fun _ e => e⟩)
  rw [er0] at hg
  cases j with
  | zero => exact hg.elim
  | succ j =>
    have hg1 := Rz.good_bind hg
    refine wpAny_mono (HT m _ ε ρ₀ c X₀ s₀ k₀ T0.cx T0.vw hg1) (fun v s₁ ⟨k₁, e1, st⟩ => ?_) fun e s' h => by
      obtain ⟨kd, k', a, e1, rfl, st, x⟩ := h
      have e2 : exW (fun ρ k => ev Φ Γ n .test ρ k (er m ε.scope.names c)) (fun ρ k => exL (fun ρ k s => ex Φ Γ n ρ k s) (b.map (erS m ε.scope.names)) ρ k) (j + 1) ρ₀ k₀ = .exc kd k' := exc_bind _ _ e1
      exact pq (exc_good e2 hg) A FLo L hc G0 ε s' a kd k' _ T0.cx.act.fr T0.frm (fun b o q => ⟨T0.g2 b o q, nFL T0 q⟩) (T0.step st).ot (x.lift T0.kp.old) fun s'' rs'' o'' x'' => ⟨kd, k', a, by rw [er0]; exact e2, rfl, o'', rs0.trans (st.rest.trans rs''), x''⟩
    have T1 := T0.step st
    have er1 := er0
    rw [show exW (fun ρ k => ev Φ Γ n .test ρ k (er m ε.scope.names c)) (fun ρ k => exL (fun ρ k s => ex Φ Γ n ρ k s) (b.map (erS m ε.scope.names)) ρ k) (j + 1) ρ₀ k₀ = _ from ok_bind e1] at hg er1
    have mv1 := mv0.trans (Step.mv T0.cx st) lv0
    have lv1 := fun a q => lv0 a (st.old T0.cx (b := a) q)
    have rs1 := rs0.trans st.rest
    cases v with
    | false =>
      show wpAny _ _ (execs [] ε) _ _ _
      exact wpAny_execs_nil ⟨ρ₀, k₁, X₀, σ₀, er1, T1, mv1, rs1, lv1⟩
    | true =>
      have hg2 := Rz.good_bind hg
      refine wpAny_mono (exL_sound H b s₁ k₁ ρ₀ X₀ σ₀ T1 hg2) (fun f s₂ hq => ?_) fun e s' h => by
        obtain ⟨kd, k', a, e1, rfl, o, rs, xx⟩ := h
        have e2 := exc_bind (f := fun p k => match p with | (.next, ρ) => exW (fun ρ k => ev Φ Γ n .test ρ k (er m ε.scope.names c)) (fun ρ k => exL (fun ρ k s => ex Φ Γ n ρ k s) (b.map (erS m ε.scope.names)) ρ k) j ρ k | q => .ok q k) _ _ e1
        exact pq (exc_good e1 hg2) A FLo L hc G0 ε s' a kd k' _ T0.cx.act.fr T0.frm (fun b o q => ⟨T0.g2 b o q, nFL T0 q⟩) o xx fun s'' rs'' o'' x'' => ⟨kd, k', a, by rw [er1]; exact e2, rfl, o'', rs1.trans (rs.trans rs''), x''⟩
      cases f with
      | next =>
        obtain ⟨ρ₂, k₂, X₂, σ₂, e2, T2, mv2, rs2, lv2⟩ := hq
        refine ⟨j, Nat.lt_succ_self j, ρ₂, k₂, X₂, σ₂, ?_, T2, mv1.trans mv2 lv1, rs1.trans rs2, fun a q => lv1 a (lv2 a q)⟩
        rw [er1]
        exact ok_bind e2
      | ret v =>
        obtain ⟨d, ρ₂, k₂, e2, o, rp, rs2⟩ := hq
        refine ⟨d, ρ₂, k₂, ?_, o, rp, rs1.trans rs2⟩
        rw [er1]
        exact ok_bind e2
      | brk => exact hq.elim
      | cont => exact hq.elim

/-- `for` -/
theorem fo_sound (G : Gl prog w K hb C bx xc nn Φ Γ) (pl : xc → PlComp prog w C bx hb) (pq : xc → PlLoop prog w C bx) (H : SX prog w bx hb C A FLo L nn X0 hc G0 ε xc Φ Γ n) {x : Str} {p : Pos} {it : PySem.Expr} {b : List PySem.Stmt} {pos : Pos} (hl : lcl ε.scope.names x = true) (T : St bx hb A FLo L nn X0 hc G0 ε s k ρ X σ)
    {r : RzS} (hr : r = (ev Φ Γ n .iter ρ k (er m ε.scope.names it)).bind fun d k => match d with
      | .list items => exF (fun ρ k => exL (fun ρ k s => ex Φ Γ n ρ k s) (b.map (erS m ε.scope.names)) ρ k) (tok x) items ρ k
      | _ => .stuck) (hg : r.good xc) :
    wpAny (model prog w) A (exec (.For (.Name x p) it b [] pos) ε) (XQ bx hb A FLo L nn X0 hc G0 ε s X r) (XE C bx FLo L hc G0 s r) s := by
  subst hr
  obtain ⟨HV, HT, HI⟩ := ev_sound (A := A) (FL := L :: FLo) G pl n
  have hset : ∀ elts k p, it ≠ .Set elts k p := fun elts k p q => by
    subst q
    have := Rz.good_bind hg
    rw [er_set] at this
    exact not_other this
  refine wpAny_For (wpAny_mono (HI m _ ε ρ it X s k T.cx T.vw (Rz.good_bind hg)) (fun xv s₁ h₁ => ?_) fun e s' h => h.xe T exc_bind) (folded_pure hset)
  refine wpAny_mono h₁ (fun itv s₂ h₂ => ?_) fun e s' h => h.xe T exc_bind
  obtain ⟨items, k₂, I, SS, Y, e1, rfl, st₂, hI, lI, nI, IA, hst, hsz, hXY, hYI, hNY⟩ := h₂
  rw [ok_bind e1] at hg ⊢
  dsimp only at hg ⊢
  generalize hF : (fun ρ k => exL (fun ρ k s => ex Φ Γ n ρ k s) (b.map (erS m ε.scope.names)) ρ k) = F at hg ⊢
  generalize hR : exF F (tok x) items ρ k₂ = r at hg ⊢
  have gI := T.g0n hI
  have hbI : hb.get? I = none := by
    cases q : hb.get? I with
    | none => rfl
    | some o => rw [T.cx.wd.base I o q] at hI; cases hI
  refine codeAny_forLoop (fun j s' => ∃ i ρ' k' X' σ', i ≤ items.length ∧ j = items.length - i ∧ r = exF F (tok x) (items.drop i) ρ' k' ∧ SS i s'.heap ∧ (∀ a, X' a → Y a) ∧ ¬ X' I ∧ St bx hb A FLo L nn X0 hc G0 ε s' k' ρ' X' σ' ∧ Mv X X' s.heap s'.heap ∧ Rest s s' ∧ (∀ a, s'.heap.get? a = none → s.heap.get? a = none ∧ Y a))
    (fun j s₀ ⟨i, ρ₀, k₀, X₀, σ₀, hi, hj, er0, hss, hY0, nI0, T0, mv0, rs0, lv0⟩ => ?_) items.length ⟨0, ρ, k₂, X, σ, Nat.zero_le _, rfl, hR.symm, hst, hXY, nI, T.step st₂, Step.mv T.cx st₂, st₂.rest, fun a q => ⟨st₂.old T.cx q, hNY a q⟩⟩
  have turn : ∀ {h' : Heap} {tk : Nat}, (∀ b o, b ≠ I → s₀.heap.get? b = some o → h'.get? b = some o) → St bx hb A FLo L nn X0 hc G0 ε { s₀ with heap := h', toks := tk } k₀ ρ₀ X₀ σ₀ ∧ Mv X X₀ s.heap h' ∧ ∀ a, h'.get? a = none → s.heap.get? a = none ∧ Y a := fun g => by
    refine ⟨T0.turn nI0 gI.2.2.2.1 gI.1 gI.2.1 hbI (IA.live _ _ hss) g, ⟨fun b o nx e => g b o (fun q => by rw [q, hI] at e; cases e) (mv0.keep b o (fun z => ?_) e), mv0.more, mv0.less⟩, fun a q => ?_⟩
    · exact nx z
    · by_cases z : a = I
      · subst z; exact ⟨hI, hYI⟩
      · refine lv0 a ?_
        cases q' : s₀.heap.get? a with
        | none => rfl
        | some o => have := g a o z q'; rw [this] at q; cases q
  rcases Nat.lt_or_ge i items.length with hlt | hge
  · obtain ⟨d, hd⟩ : ∃ d, items[i]? = some d := ⟨_, List.getElem?_eq_getElem hlt⟩
    have hdrop : items.drop i = d :: items.drop (i + 1) := by
      rw [List.drop_eq_getElem_cons hlt]
      congr 1
      rw [List.getElem?_eq_getElem hlt] at hd
      exact Option.some.inj hd
    rw [hdrop] at er0
    refine IA.item i d s₀ _ _ hd hss fun v h' tk hss' g rv => ?_
    obtain ⟨T1, mv1, lv1⟩ := turn (tk := tk) g
    refine assign_Name (T1.store (u := .val d) hl ⟨rv.map (fun a o ny e => ⟨fun z => ny (hY0 a z), e⟩) fun _ _ z => z, rfl⟩ fun s₂ T2 mv2 rs2 lv2 => ?_)
    rw [er0] at hg
    have hg2 : (F (Rho.put (tok x) (.val d) ρ₀) k₀).good xc := Rz.good_bind hg
    subst hF
    have rs02 : Rest s s₂ := rs0.trans (Rest.trans ⟨h', tk, rfl⟩ rs2)
    refine wpAny_mono (exL_sound H b s₂ k₀ _ X₀ σ₀ T2 hg2) (fun f s₃ hq => ?_) fun e s' h => by
      obtain ⟨kd, k', a, e1, rfl, o, rs, xx⟩ := h
      exact pq (exc_good e1 hg2) A FLo L hc G0 ε s' a kd k' _ T0.cx.act.fr T0.frm (fun b o q => ⟨T0.g2 b o q, nFL T0 q⟩) o xx fun s'' rs'' o'' x'' => ⟨kd, k', a, by rw [er0]; exact exc_bind _ _ e1, rfl, o'', rs02.trans (rs.trans rs''), x''⟩
    cases f with
    | next =>
      obtain ⟨ρ₃, k₃, X₃, σ₃, e2, T3, mv3, rs3, lv3⟩ := hq
      obtain ⟨oI, eI, _⟩ := IA.live _ _ hss'
      have eI2 : s₂.heap.get? I = some oI := mv2.keep I oI nI0 eI
      have m3 : ∀ a, X₃ a → X₀ a ∨ s₂.heap.get? a = none := mv3.more
      refine ⟨items.length - (i + 1), by omega, i + 1, ρ₃, k₃, X₃, σ₃, hlt, rfl, ?_, IA.frame _ _ _ hss' (fun b o hb e => ?_), fun a q => ?_, fun q => ?_, T3, ?_, rs02.trans rs3, fun a q => ?_⟩
      · rw [er0]
        exact ok_bind e2
      · have h1 : ¬ X₀ b := by
          rcases hb with z | z
          · exact fun q => z (hY0 b q)
          · exact z ▸ nI0
        have e2' := mv2.keep b o h1 e
        exact mv3.keep b o h1 e2'
      · rcases m3 a q with z | z
        · exact hY0 a z
        · exact (lv1 a (lv2 a z)).2
      · rcases m3 I q with z | z
        · exact nI0 z
        · rw [eI2] at z; cases z
      · exact (mv1.trans mv2 (fun a q => (lv1 a q).1)).trans mv3 (fun a q => (lv1 a (lv2 a q)).1)
      · exact lv1 a (lv2 a (lv3 a q))
    | ret v =>
      obtain ⟨d', ρ₂, k₂, e2, o, rp, rs3⟩ := hq
      refine ⟨d', ρ₂, k₂, ?_, o, rp, rs02.trans rs3⟩
      rw [er0]
      exact ok_bind e2
    | brk => exact hq.elim
    | cont => exact hq.elim
  · obtain rfl : i = items.length := Nat.le_antisymm hi hge
    refine IA.done s₀ _ _ hss fun h' tk g => ?_
    obtain ⟨T1, mv1, lv1⟩ := turn (tk := tk) g
    rw [List.drop_length] at er0
    show wpAny _ _ (execs [] ε) _ _ _
    exact wpAny_execs_nil ⟨ρ₀, k₀, X₀, σ₀, er0, T1, mv1, rs0.trans ⟨h', tk, rfl⟩, fun a q => (lv1 a q).1⟩
end
end Mine

open PySem PySem.W PySem.Spec PySem.Calls PyProof.Rows
set_option Elab.async false
set_option maxRecDepth 100000
set_option linter.unusedVariables false
namespace Mine

section
variable {prog : Program} {w : World} {K : Frag} {bx : Bx} {hb : Heap} {C : Addr} {A : Around} {FLo : List Addr} {L : Addr} {nn : Nat} {X0 : Addr → Prop} {hc : Heap} {G0 : Addr → Option Obj} {ε : Env} {s : Shared} {k : Nat} {ρ : Rho} {X : Addr → Prop} {σ : Str → Addr} {E : Value → Shared → Prop} {xc : Prop} {Φ : PhiT} {Γ : GamT}

theorem ex_sound (G : Gl prog w K hb C bx xc nn Φ Γ) (pl : xc → PlComp prog w C bx hb) (pq : xc → PlLoop prog w C bx) : ∀ n, SX prog w bx hb C A FLo L nn X0 hc G0 ε xc Φ Γ n
  | 0 => fun m t s k ρ X σ T hg => hg.elim
  | n + 1 => fun m t s k ρ X σ T hg => by
    have H := ex_sound G pl pq n
    cases m with
    | zero => exact hg.elim
    | succ m =>
      have I := erS_inv m ε.scope.names t
      generalize erS (m + 1) ε.scope.names t = z at I hg ⊢
      cases I with
      | ret e p => exact ret_sound G pl T hg
      | newL x p p' pos hl => exact newL_sound hl T
      | newL2 => exact hg.elim
      | newC => exact hg.elim
      | assign x p e pos hl => exact assign_sound G pl hl T hg
      | mass ts kk p e pos xs h1 h2 h3 => exact mass_sound G pl h1 h3 h2 T rfl hg
      | seti => exact hg.elim
      | app x p ap e cp p' hl h1 h2 =>
        have e0 : ex Φ Γ (n + 1) ρ k (.app (tok x) (er m ε.scope.names e)) = match own? ρ (tok x) with
          | some l => if l.length ≤ 1000000 then (ev Φ Γ n .val ρ k (er m ε.scope.names e)).bind fun d k => .ok (.next, Rho.put (tok x) (.own (l ++ [d])) ρ) k else .stuck
          | none => .stuck := rfl
        rw [e0] at hg ⊢
        unfold own? at hg ⊢
        cases hx : ρ.lookup (tok x) with
        | none => rw [hx] at hg; exact hg.elim
        | some u =>
          rw [hx] at hg
          cases u with
          | val d => exact hg.elim
          | own l =>
            dsimp only at hg ⊢
            split at hg
            · rename_i hsz
              rw [if_pos hsz]
              exact app_sound G pl hl h1 h2 hx hsz T hg
            · exact hg.elim
      | eval => exact eval_sound G pl T rfl hg
      | ite => exact ite_sound G pl H T rfl hg
      | whl => exact whl_sound G pl pq H T rfl hg
      | fo x px it b p hl => exact fo_sound G pl pq H hl T rfl hg
      | rai => exact hg.elim
      | other => exact hg.elim
      | try_ b f x fp p1 p2 l h hg0 hf hx hi =>
        have e0 : ex Φ Γ (n + 1) ρ k (.try_ (b.map (erS m ε.scope.names)) (tok x) h) = match exL (fun ρ k s => ex Φ Γ n ρ k s) (b.map (erS m ε.scope.names)) ρ k with
          | .ok p k => .ok p k
          | .exc _ _ => .stuck
          | .stuck => .stuck := rfl
        rw [e0] at hg ⊢
        cases hb : exL (fun ρ k s => ex Φ Γ n ρ k s) (b.map (erS m ε.scope.names)) ρ k with
        | exc => rw [hb] at hg; exact hg.elim
        | stuck => rw [hb] at hg; exact hg.elim
        | ok p' k' =>
          have W := exL_sound H b s k ρ X σ T (by rw [hb]; trivial)
          rw [hb] at W
          refine wpAny_Try_except (wpAny_mono W (fun f s₁ hq => ?_) fun e s' ⟨kd, k', a, e1, _⟩ => by cases e1)
          cases f with
          | next => exact wpAny_execs_nil hq
          | ret v => exact hq
          | brk => exact hq.elim
          | cont => exact hq.elim
end
end Mine

open PySem PySem.W PySem.Spec PySem.Calls PyProof.Rows
set_option Elab.async false
set_option maxRecDepth 100000
set_option linter.unusedVariables false
namespace Mine

/-- what a body gives, run on its arguments -/
noncomputable def runB (Φ : PhiT) (Γ : GamT) (n : Nat) (ps : List Nat) (B : List S) (k : Nat) (ds : List D) : Rz D :=
  if ds.length = ps.length then
    match exL (fun ρ k s => ex Φ Γ n ρ k s) B (putAll ps ds []) k with
    | .ok (.ret d, _) k => .ok d k
    | .ok (.next, _) k => .ok .none k
    | .exc kd k => .exc kd k
    | .stuck => .stuck
  else .stuck

noncomputable def scOk (scope : Scope) (ps : List Str) : Bool :=
  scope.kind == .function && !scope.isCoroutine && !scope.isGenerator && ps.all fun x => scope.names.lookup x == some .local || scope.names.lookup x == some .cell

theorem cells_acc {x : Str} : ∀ (l : List (Str × NameKind)) (n : Nat) (acc : List (Str × Addr)), (acc.lookup x).isSome = true → ((cellsFrom n l acc).lookup x).isSome = true
  | [], _, _, h => h
  | (y, kd) :: r, n, acc, h => by
    unfold cellsFrom
    split
    · refine cells_acc r _ _ ?_
      rw [List.lookup_cons]
      split
      · rfl
      · exact h
    · exact cells_acc r n acc h

theorem cells_some {x : Str} : ∀ (l : List (Str × NameKind)) (n : Nat) (acc : List (Str × Addr)), l.lookup x = some .cell → ((cellsFrom n l acc).lookup x).isSome = true
  | [], _, _, h => by cases h
  | (y, kd) :: r, n, acc, h => by
    rw [List.lookup_cons] at h
    unfold cellsFrom
    split at h
    · rename_i e
      have e' : x = y := by simpa using e
      cases h
      subst e'
      rw [if_pos (by rfl)]
      exact cells_acc r _ _ (by rw [List.lookup_cons]; simp)
    · split
      · exact cells_some r _ _ h
      · exact cells_some r _ _ h

section
variable {bx : Bx} {X : Addr → Prop} {h : Heap}

theorem bind_rel (kindOf : Str → Option NameKind) : ∀ (ps : List Str) (vs : List Value) (ds : List D) (ρ : Rho) (m cm : Str → Option Value), RepL bx X h vs ds → vs.length = ps.length → (∀ x ∈ ps, kindOf x = some .local ∨ kindOf x = some .cell) →
    (∀ x l, ρ.lookup (tok x) ≠ some (.own l)) → (∀ x d, ρ.lookup (tok x) = some (.val d) → ∃ v, Rep bx X h v d ∧ (kindOf x = some .local ∧ m x = some v ∨ kindOf x = some .cell ∧ cm x = some v)) →
    (∀ x l, (putAll (ps.map tok) ds ρ).lookup (tok x) ≠ some (.own l)) ∧ (∀ x d, (putAll (ps.map tok) ds ρ).lookup (tok x) = some (.val d) → ∃ v, Rep bx X h v d ∧ (kindOf x = some .local ∧ bindL kindOf (ps.zip vs) m x = some v ∨ kindOf x = some .cell ∧ bindC kindOf (ps.zip vs) cm x = some v))
  | [], _, _, ρ, m, cm, _, _, _, h1, h2 => ⟨h1, h2⟩
  | p :: ps, [], _, _, _, _, _, e, _, _, _ => by cases e
  | p :: ps, v :: vs, _, ρ, m, cm, .cons (d := d) (ds := ds) a r, e, hk, h1, h2 => by
    refine bind_rel kindOf ps vs ds (Rho.put (tok p) (.val d) ρ) (if kindOf p = some .local then fun y => if y = p then some v else m y else m) (if kindOf p = some .local then cm else fun y => if y = p then some v else cm y) r (by simpa using e) (fun x hx => hk x (.tail _ hx)) (fun x l q => ?_) fun x d' q => ?_
    · rw [lookup_putT] at q
      split at q
      · cases q
      · exact h1 x l q
    · rw [lookup_putT] at q
      split at q
      · rename_i ex
        subst ex
        cases q
        refine ⟨v, a, ?_⟩
        rcases hk x (.head _) with z | z
        · exact .inl ⟨z, by rw [if_pos z, if_pos rfl]⟩
        · exact .inr ⟨z, by rw [if_neg (by rw [z]; intro z; cases z), if_pos rfl]⟩
      · rename_i ne
        obtain ⟨u, ru, z⟩ := h2 x d' q
        refine ⟨u, ru, z.imp (fun z => ⟨z.1, ?_⟩) fun z => ⟨z.1, ?_⟩⟩
        · split
          · exact (if_neg ne).trans z.2
          · exact z.2
        · split
          · exact z.2
          · exact (if_neg ne).trans z.2
end

section
variable {prog : Program} {w : World} {K : Frag} {bx : Bx} {hb : Heap} {C : Addr} {nn : Nat} {xc : Prop} {Φ : PhiT} {Γ : GamT} {n m : Nat} {f : Addr} {name qual : Str} {params : Arguments} {body : List Stmt} {scope : Scope} {dV kV doc pm cdv ct oc : Value} {an od : Option Addr} {osl : Array (Option Value)} {ps : List Str} {B : List S}

/-- what a call must leave be -/
noncomputable def g0 (bx : Bx) (FL : List Addr) (h : Heap) (b : Addr) : Option Obj := if b ∈ FL then none else match bx with
  | some (c, _) => if b = c then none else h.get? b
  | none => h.get? b

/-- a def's call comes to its body's run -/
theorem enter_of (kin : K.In hb) (hlim : hb.NoLimit)
    (ho : K.lookup f = some ⟨oc, od, .func (fnOf name qual params body scope dV kV doc pm an cdv ct), osl⟩) (hcd : codeIn K cdv qual = true)
    (hbind : ∀ vs : List Value, vs.length = ps.length → bindArgs (fnOf name qual params body scope dV kV doc pm an cdv ct) ⟨vs, []⟩ = pure (ps.zip vs)) (hsc : scOk scope ps = true)
    {A : Around} {FL : List Addr} {X : Addr → Prop} {s : Shared} {vs : List Value} {ρ : Rho} {k : Nat} {Q : Value → Shared → Prop} {E : Value → Shared → Prop}
    (act : Act A FL (nn + 1) s.heap) (wd : Wd bx hb X FL s.heap k) (hfl : ∃ L ∈ FL, hb.objs.size ≤ L) (hlen' : vs.length = ps.length) (hown : ∀ x l, ρ.lookup (tok x) ≠ some (.own l))
    (hval : ∀ kindOf : Str → Option NameKind, (∀ x ∈ ps, kindOf x = some .local ∨ kindOf x = some .cell) → ∀ x d, ρ.lookup (tok x) = some (.val d) → ∃ v, Rep bx X s.heap v d ∧ (kindOf x = some .local ∧ bindL kindOf (ps.zip vs) (fun _ => none) x = some v ∨ kindOf x = some .cell ∧ bindC kindOf (ps.zip vs) (fun _ => none) x = some v))
    (run : ∀ (ε : Env) (s' : Shared) (X' : Addr → Prop), ε.scope = scope → Rest s s' → s'.heap.Ns s.heap.objs.size (bindL ε.kindOf (ps.zip vs) fun _ => none) → (∀ b o, s.heap.get? b = some o → s'.heap.get? b = some o) → (∀ a, X' a → X a ∨ s.heap.get? a = none) →
      St bx hb (A.deeper ε) FL s.heap.objs.size nn X s.heap (g0 bx FL s.heap) ε s' k ρ X' (fun _ => 0) →
      wpAny (model prog w) (A.deeper ε) (execs body ε) (fun fl s'' => match fl with | .ret v => Q v s'' | .next => Q .none s'' | _ => False) (fun e s'' => wpAny (model prog w) (A.deeper ε) (leaving ε e) (fun _ s3 => E e s3) (fun e' s3 => E e' s3) s'') s') :
    wpAny (model prog w) A (call (.ref f) vs) Q E s := by
  unfold scOk at hsc
  simp only [Bool.and_eq_true, beq_iff_eq, Bool.not_eq_true', List.all_eq_true, Bool.or_eq_true] at hsc
  obtain ⟨⟨⟨hk, hco⟩, hgen⟩, hps⟩ := hsc
  have hKs : K.In s.heap := kin.keeps wd.base
  refine wpAny_call (codeAny_call_function (by have := act.dep; omega) (hKs _ _ ho) rfl hco hgen rfl (codeRec_of hKs hcd) (BindsTo.of_eq (hbind vs hlen') _ _ _ _ ?_))
  have hkind : ∀ x ∈ ps.zip vs, scope.names.lookup x.1 = some .local ∨ (scope.names.lookup x.1 = some .cell ∧ ((cellsFrom (s.heap.objs.size + 1) scope.names []).lookup x.1).isSome = true) := fun x hx => by
    have hx1 : x.1 ∈ ps := by
      obtain ⟨a, b⟩ := x
      exact (List.of_mem_zip hx).1
    rcases hps x.1 hx1 with q | q
    · exact .inl q
    · exact .inr ⟨q, cells_some _ _ _ q⟩
  refine wpAny_newFunctionEnv_cells hk hkind fun ε hε s' x => ?_
  have hkeep := x.toInCall.keep
  have hs := x.toInCall.same
  have hloc : ε.locals = s.heap.objs.size := by rw [hε]; rfl
  have hfrm : ε.frame = some s.heap.objs.size := by rw [hε]; rfl
  have hsc' : ε.scope = scope := by rw [hε]; rfl
  have hcl : ε.cells = cellsFrom (s.heap.objs.size + 1) scope.names [] := by rw [hε]; rfl
  have hgl : ε.globals = mainGlobals := by rw [hε]; rfl
  have hbn : ε.builtins = builtinsNs := by rw [hε]; rfl
  have hns : s'.heap.Ns s.heap.objs.size (bindL ε.kindOf (ps.zip vs) fun _ => none) := hloc ▸ x.toInCall.ns
  have habv : ∀ y c, ε.cells.lookup y = some c → s.heap.objs.size < c := fun y c h => hloc ▸ x.above y c (PySem.mem_of_lookup h)
  have hcell := x.cell
  have hapart := x.apart
  clear x
  clear hε
  refine ⟨hlim.keeps fun b o e => hkeep b o (wd.base b o e), codeAny_func ?_⟩
  have none_big : ∀ c, s.heap.objs.size ≤ c → s.heap.get? c = none := fun c h => by
    cases q : s.heap.get? c with
    | none => rfl
    | some o => exact absurd (Heap.lt_size q) (Nat.not_lt.mpr h)
  have hb_big : ∀ c, s.heap.objs.size ≤ c → hb.get? c = none := fun c h => by
    cases q : hb.get? c with
    | none => rfl
    | some o =>
      have := wd.base c o q
      rw [none_big c h] at this; cases this
  have hLX : s.heap.objs.size ∉ FL := fun q => by
    obtain ⟨o, e⟩ := (wd.xok _ (wd.flb _ q)).2
    rw [none_big _ (Nat.le_refl _)] at e; cases e
  have hbsz : hb.objs.size ≤ s.heap.objs.size := by
    obtain ⟨L0, hL0, hle⟩ := hfl
    obtain ⟨o, e⟩ := (wd.xok _ (wd.flb _ hL0)).2
    exact Nat.le_trans hle (Nat.le_of_lt (Heap.lt_size e))
  have hbox' : BoxI bx s'.heap k := by
    have W := wd.box
    cases bx with
    | none => trivial
    | some p =>
      obtain ⟨b, l, xs⟩ := p
      obtain ⟨n, vl, nl, tk, h1, h2, h3, h4⟩ := W
      exact ⟨n, vl, nl, tk, hkeep _ _ h1, hkeep _ _ h2, h3, h4⟩
  obtain ⟨l, hfr1, hfr2, hfr3⟩ := act.fr
  have hbig : ∀ a o, ¬ X a → s.heap.get? a = some o → ¬ (X a ∨ a = s.heap.objs.size ∨ ∃ x, ε.cells.lookup x = some a) ∧ s'.heap.get? a = some o := fun a o nx e => ⟨fun z => (by
      rcases z with z | z | ⟨y, z⟩
      · exact nx z
      · rw [z, none_big _ (Nat.le_refl _)] at e; cases e
      · rw [none_big _ (Nat.le_of_lt (habv y a z))] at e; cases e), hkeep a o e⟩
  have br2 := hval ε.kindOf (fun x hx => by
        show ε.scope.names.lookup x = _ ∨ ε.scope.names.lookup x = _
        rw [hsc']
        exact hps x hx)
  have T : St bx hb (A.deeper ε) FL s.heap.objs.size nn X s.heap (g0 bx FL s.heap) ε s' k ρ (fun a => X a ∨ a = s.heap.objs.size ∨ ∃ x, ε.cells.lookup x = some a) (fun _ => 0) := by
    have hG0 : ∀ b o, g0 bx FL s.heap b = some o → s.heap.get? b = some o ∧ b ∉ FL ∧ ∀ xs, bx ≠ some (b, xs) := fun b o e => by
      unfold g0 at e
      split at e
      · cases e
      · rename_i h1
        cases bx with
        | none => exact ⟨e, h1, by intro _ q; cases q⟩
        | some p =>
          obtain ⟨c, xs⟩ := p
          dsimp only at e
          split at e
          · cases e
          · rename_i h2
            exact ⟨e, h1, by intro _ q; cases q; exact h2 rfl⟩
    have hG0n : ∀ c, s.heap.objs.size ≤ c → g0 bx FL s.heap c = none := fun c h => by
      unfold g0
      split
      · rfl
      · cases bx with
        | none => exact none_big c h
        | some p =>
          dsimp only
          split
          · rfl
          · exact none_big c h
    refine ⟨⟨⟨act.hd, ⟨ε :: l, Around.frames_deeper hfr1, ?_, ?_⟩, fun b hb' => ?_, ?_, ?_⟩, ⟨fun b o e => hkeep b o (wd.base b o e), fun b hb' => ?_, fun a q => ?_, hbox', fun b xs z => .inl (wd.bxx b xs z)⟩, ?_⟩,
      ⟨by rw [hsc']; exact hk, hgl, hbn, ⟨_, .head _, hfrm⟩, fun x h => h, fun x h => ⟨h, ?_⟩, fun y d hv q => ?_, fun y l' hv q => ?_⟩, hloc, hfrm, ⟨fun b o e => hkeep b o (hG0 b o e).1, fun b _ mm e => e.keeps hkeep, fun b e => ?_⟩, fun b o e => (hG0 b o e).2, fun b o e => (hG0 b o e).1, fun a q => .inl q,
      ⟨hG0n _ (Nat.le_refl _), none_big _ (Nat.le_refl _)⟩, hbsz, hLX, fun x c e => ?_, fun x y c e e' => ?_, fun x l' hv q => ?_, fun x y l1 l2 hv1 hv2 q1 q2 => ?_, fun b bl xs eb x l' hv q => ?_⟩
    · rw [List.map_cons, List.map_cons, hfrm, hfr2]
    · intro e he
      rcases List.mem_cons.mp he with q | q
      · rw [q, hsc', hk]; intro z; cases z
      · exact hfr3 e q
    · rcases List.mem_cons.mp hb' with q | q
      · exact ⟨_, q ▸ hns⟩
      · obtain ⟨mm, e⟩ := act.ns b q
        exact ⟨mm, e.keeps hkeep⟩
    · show A.depth + 1 + nn < recursionLimit
      have := act.dep; omega
    · show A.units + 3 + 8 * nn + 80 < cLine
      have := act.uni; omega
    · rcases List.mem_cons.mp hb' with q | q
      · exact .inr (.inl q)
      · exact .inl (wd.flb b q)
    · rcases q with q | q | ⟨y, q⟩
      · obtain ⟨h1, o, h2⟩ := wd.xok a q
        exact ⟨h1, o, hkeep a o h2⟩
      · subst q
        obtain ⟨o, _, _, e, _⟩ := hns
        exact ⟨hb_big _ (Nat.le_refl _), o, e⟩
      · obtain ⟨o, e, _⟩ := hcell y a q
        exact ⟨hb_big _ (Nat.le_of_lt (habv y a q)), o, e⟩
    · exact ⟨_, .head _, hbsz⟩
    · rw [hcl]
      rw [hsc'] at h
      exact Option.isSome_iff_exists.mp (cells_some _ _ _ h)
    · obtain ⟨v, rv, z | z⟩ := br2 y d q
      · exact ⟨v, .inl ⟨z.1, _, by rw [hloc]; exact hns, z.2⟩, rv.map hbig fun _ _ z => z⟩
      · have hc1 : ∃ c, ε.cells.lookup y = some c := by
          rw [hcl]
          have : ε.scope.names.lookup y = some .cell := z.1
          rw [hsc'] at this
          exact Option.isSome_iff_exists.mp (cells_some _ _ _ this)
        obtain ⟨c, hc1⟩ := hc1
        obtain ⟨o, e1, e2⟩ := hcell y c hc1
        exact ⟨v, .inr ⟨z.1, c, o, hc1, e1, by rw [e2, z.2]⟩, rv.map hbig fun _ _ z => z⟩
    · exact absurd q (hown y l')
    · cases q : s.heap.get? b with
      | none => rfl
      | some o =>
        have := hkeep b o q
        rw [e] at this; cases this
    · obtain ⟨o, e1, e2⟩ := hcell x c e
      exact ⟨.inr (.inr ⟨x, e⟩), hG0n _ (Nat.le_of_lt (habv x c e)), none_big _ (Nat.le_of_lt (habv x c e)), o, _, e1, e2⟩
    · exact name_of_addr hapart (PySem.mem_of_lookup e) (PySem.mem_of_lookup e')
    · exact absurd q (hown x l')
    · exact absurd q1 (hown x l1)
    · exact absurd q (hown x l')
  refine wpAny_mono (run ε s' _ hsc' ?_ hns hkeep ?_ T) (fun fl s'' hq => ?_) fun e s'' hq => hq
  · obtain ⟨h1, t1, e1⟩ := hs
    exact ⟨_, _, e1⟩
  · intro a q
    rcases q with q | q | ⟨y, q⟩
    · exact .inl q
    · exact .inr (q ▸ none_big _ (Nat.le_refl _))
    · exact .inr (none_big _ (Nat.le_of_lt (habv y a q)))
  · cases fl with
    | next => exact hq
    | ret v => exact hq
    | brk => exact hq.elim
    | cont => exact hq.elim

/-- a def's call, its arguments all shown -/
theorem call_of (kin : K.In hb) (hlim : hb.NoLimit)
    (ho : K.lookup f = some ⟨oc, od, .func (fnOf name qual params body scope dV kV doc pm an cdv ct), osl⟩) (hcd : codeIn K cdv qual = true)
    (hbind : ∀ vs : List Value, vs.length = ps.length → bindArgs (fnOf name qual params body scope dV kV doc pm an cdv ct) ⟨vs, []⟩ = pure (ps.zip vs)) (hsc : scOk scope ps = true)
    {A : Around} {FL : List Addr} {X : Addr → Prop} {s : Shared} {vs : List Value} {ds : List D} {k : Nat} {Q : Value → Shared → Prop} {E : Value → Shared → Prop}
    (act : Act A FL (nn + 1) s.heap) (wd : Wd bx hb X FL s.heap k) (hfl : ∃ L ∈ FL, hb.objs.size ≤ L) (rl : RepL bx X s.heap vs ds) (hlen : ds.length = ps.length)
    (run : ∀ (ε : Env) (s' : Shared) (X' : Addr → Prop), ε.scope = scope → Rest s s' → (∀ b o, s.heap.get? b = some o → s'.heap.get? b = some o) → (∀ a, X' a → X a ∨ s.heap.get? a = none) →
      St bx hb (A.deeper ε) FL s.heap.objs.size nn X s.heap (g0 bx FL s.heap) ε s' k (putAll (ps.map tok) ds []) X' (fun _ => 0) →
      wpAny (model prog w) (A.deeper ε) (execs body ε) (fun fl s'' => match fl with | .ret v => Q v s'' | .next => Q .none s'' | _ => False) (fun e s'' => wpAny (model prog w) (A.deeper ε) (leaving ε e) (fun _ s3 => E e s3) (fun e' s3 => E e' s3) s'') s') :
    wpAny (model prog w) A (call (.ref f) vs) Q E s := by
  have B := fun kindOf hk => bind_rel kindOf ps vs ds [] (fun _ => none) (fun _ => none) rl (by rw [rl.length, hlen]) hk (fun _ _ q => by cases q) (fun _ _ q => by cases q)
  exact enter_of kin hlim ho hcd hbind hsc act wd hfl (ρ := putAll (ps.map tok) ds []) (by rw [rl.length, hlen]) (B (fun _ => some .local) fun _ _ => .inl rfl).1 (fun kindOf hk => (B kindOf hk).2) fun ε s' X' h1 h2 _ h3 h4 T => run ε s' X' h1 h2 h3 h4 T

/-- what a call has left stands as at its start -/
theorem ot_step {s s'' : Shared} {FL : List Addr} {X : Addr → Prop} {k k' : Nat} (wd : Wd bx hb X FL s.heap k) (o : Ot bx s.heap (g0 bx FL s.heap) (s.heap.objs.size :: FL) FL s''.heap k') (r : Rest s s'') : Step bx FL s s'' k' := by
  obtain ⟨h2, t2, e2⟩ := r
  have es : s'' = { s with heap := s''.heap, toks := s''.toks } := by rw [e2]
  have kb : ∀ b o', s.heap.get? b = some o' → b ∉ FL → (∀ xs, bx ≠ some (b, xs)) → s''.heap.get? b = some o' := fun b o' e nf nb => by
    refine o.kp.g0 b o' ?_
    unfold g0
    rw [if_neg nf]
    cases bx with
    | none => exact e
    | some p =>
      obtain ⟨c, xs⟩ := p
      dsimp only
      rw [if_neg (fun q => nb xs (by rw [q]))]
      exact e
  refine ⟨_, _, es, ⟨kb, fun b mm e => ?_⟩, o.box⟩
  by_cases nf : b ∈ FL
  · exact o.kp.n0 b nf mm e
  · obtain ⟨o', es', ep, h1, h2, h3⟩ := e
    refine ⟨o', es', ep, kb b o' h1 nf (fun xs z => ?_), h2, h3⟩
    have W := wd.box
    subst z
    obtain ⟨_, _, _, _, g1, _⟩ := W
    rw [h1] at g1; cases g1
    cases h2

theorem g0_of {FL : List Addr} {h : Heap} {b : Addr} {o : Obj} (e : g0 bx FL h b = some o) : h.get? b = some o ∧ b ∉ FL ∧ ∀ xs, bx ≠ some (b, xs) := by
  unfold g0 at e
  split at e
  · cases e
  · rename_i h1
    cases bx with
    | none => exact ⟨e, h1, by intro _ q; cases q⟩
    | some p =>
      obtain ⟨c, xs⟩ := p
      dsimp only at e
      split at e
      · cases e
      · rename_i h2
        exact ⟨e, h1, by intro _ q; cases q; exact h2 rfl⟩

theorem con_of (G : Gl prog w K hb C bx False nn Φ Γ) (pl : False → PlComp prog w C bx hb) (pq : False → PlLoop prog w C bx) (hlim : hb.NoLimit)
    (ho : K.lookup f = some ⟨oc, od, .func (fnOf name qual params body scope dV kV doc pm an cdv ct), osl⟩) (hcd : codeIn K cdv qual = true)
    (hbind : ∀ vs : List Value, vs.length = ps.length → bindArgs (fnOf name qual params body scope dV kV doc pm an cdv ct) ⟨vs, []⟩ = pure (ps.zip vs)) (hsc : scOk scope ps = true) (hB : body.map (erS m scope.names) = B) :
    Con prog w hb C bx False (nn + 1) f (runB Φ Γ n (ps.map tok) B) := by
  subst hB
  intro A FL X s vs ds k act wd hfl rl hg
  unfold runB at hg ⊢
  by_cases hlen : ds.length = (ps.map tok).length
  case neg => rw [if_neg hlen] at hg; exact hg.elim
  rw [if_pos hlen] at hg ⊢
  refine call_of G.kin hlim ho hcd hbind hsc act wd hfl rl (by rw [hlen, List.length_map]) fun ε s' X' hsc' hrs hkp hX2 T => ?_
  have hmap : body.map (erS m scope.names) = body.map (erS m ε.scope.names) := by rw [hsc']
  rw [hmap] at hg ⊢
  have hge : (exL (fun ρ k s => ex Φ Γ n ρ k s) (body.map (erS m ε.scope.names)) (putAll (ps.map tok) ds []) k).good False := by
    revert hg
    cases exL (fun ρ k s => ex Φ Γ n ρ k s) (body.map (erS m ε.scope.names)) (putAll (ps.map tok) ds []) k with
    | ok p k => intro _; trivial
    | exc kd k => exact id
    | stuck => exact id
  refine wpAny_mono (exL_sound (ex_sound G pl pq n) body s' k _ _ _ T hge) (fun fl s'' hq => ?_) fun e s'' ⟨kd, k', a, e1, _⟩ => (by rw [e1] at hge; exact hge.elim)
  cases fl with
  | next =>
    obtain ⟨ρ', k', X', σ', e1, T', _, rs, _⟩ := hq
    rw [e1]
    exact ⟨.none, k', rfl, ot_step wd T'.ot (hrs.trans rs), .none⟩
  | ret v =>
    obtain ⟨d, ρ', k', e1, o, rp, rs⟩ := hq
    rw [e1]
    exact ⟨d, k', rfl, ot_step wd o (hrs.trans rs), rp⟩
  | brk => exact hq.elim
  | cont => exact hq.elim
end
end Mine

open PySem PySem.W PySem.Spec PySem.Calls PyProof.Rows
set_option Elab.async false
set_option maxRecDepth 100000
namespace Mine
section
variable {Φ : PhiT} {Γ : GamT} {n k : Nat} {ρ : Rho}
theorem b_ok {α β : Type} {a : α} {f : α → Nat → Rz β} : (Rz.ok a k).bind f = f a k := rfl
theorem w_int {i : Int} : ev Φ Γ (n + 1) .val ρ k (.int i) = .ok (.int i) k := rfl
theorem w_str {x : Str} : ev Φ Γ (n + 1) .val ρ k (.str x) = .ok (.str x) k := rfl
theorem w_none : ev Φ Γ (n + 1) .val ρ k .none = .ok .none k := rfl
theorem w_bool {b : Bool} : ev Φ Γ (n + 1) .val ρ k (.bool b) = .ok (.bool b) k := rfl
noncomputable def getV (ρ : Rho) (x : Nat) (k : Nat) : Rz D := match ρ.lookup x with
  | some (.val d) => .ok d k
  | _ => .stuck
theorem w_var {x : Nat} : ev Φ Γ (n + 1) .val ρ k (.var x) = getV ρ x k := rfl
theorem getV_hit {x y : Nat} {d : D} {r : Rho} (h : (x == y) = true) : getV ((y, .val d) :: r) x k = .ok d k := by
  unfold getV
  rw [List.lookup_cons, h]
theorem getV_miss {x y : Nat} {v : Var} {r : Rho} (h : (x == y) = false) : getV ((y, v) :: r) x k = getV r x k := by
  unfold getV
  rw [List.lookup_cons, h]
noncomputable def getG (Γ : GamT) (x : Nat) (k : Nat) : Rz D := match Γ x with
  | some d => .ok d k
  | Option.none => .stuck
theorem w_glob {x : Nat} : ev Φ Γ (n + 1) .val ρ k (.glob x) = getG Γ x k := rfl
theorem getG_hit {x : Nat} {d : D} (h : Γ x = some d) : getG Γ x k = .ok d k := by unfold getG; rw [h]
theorem w_bin {o : Operator} {a b : X} : ev Φ Γ (n + 1) .val ρ k (.bin o a b) = (ev Φ Γ n .val ρ k a).bind fun x k => (ev Φ Γ n .val ρ k b).bind fun y k => binD o x y k := rfl
theorem w_cmp {o : CmpOp} {a b : X} : ev Φ Γ (n + 1) .val ρ k (.cmp o a b) = (ev Φ Γ n .val ρ k a).bind fun x k => (ev Φ Γ n .val ρ k b).bind fun y k => cmpD o x y k := rfl
noncomputable def negD (x : D) (k : Nat) : Rz D := match x with
  | .int i => .ok (.int (-i)) k
  | _ => .stuck
theorem w_neg {a : X} : ev Φ Γ (n + 1) .val ρ k (.neg a) = (ev Φ Γ n .val ρ k a).bind negD := rfl
theorem w_band {l : List X} : ev Φ Γ (n + 1) .val ρ k (.band l) = andV (fun k e => ev Φ Γ n .val ρ k e) l k := rfl
theorem w_bor {l : List X} : ev Φ Γ (n + 1) .val ρ k (.bor l) = orV (fun k e => ev Φ Γ n .val ρ k e) l k := rfl
noncomputable def selD (d : D) (a b : Rz D) : Rz D := match d with
  | .bool true => a
  | .bool false => b
  | _ => .stuck
theorem sel_t {a b : Rz D} : selD (.bool true) a b = a := rfl
theorem sel_f {a b : Rz D} : selD (.bool false) a b = b := rfl
theorem w_ite {c a b : X} : ev Φ Γ (n + 1) .val ρ k (.ite c a b) = (ev Φ Γ n .test ρ k c).bind fun d k => selD d (ev Φ Γ n .val ρ k a) (ev Φ Γ n .val ρ k b) := rfl
noncomputable def isVar : X → Bool
  | .var _ => true
  | _ => false
theorem w_idx {a i : X} (h : isVar a = false) : ev Φ Γ (n + 1) .val ρ k (.idx a i) = (ev Φ Γ n .val ρ k a).bind fun x k => (ev Φ Γ n .val ρ k i).bind fun j k => idxD x j k := by
  cases a <;> first | rfl | cases h
noncomputable def getO (ρ : Rho) (x : Nat) : Option D := match ρ.lookup x with
  | some (.val d) => some d
  | some (.own l) => some (.list l)
  | Option.none => Option.none
theorem getO_val {x y : Nat} {d : D} {r : Rho} (h : (x == y) = true) : getO ((y, .val d) :: r) x = some d := by
  unfold getO
  rw [List.lookup_cons, h]
theorem getO_own {x y : Nat} {l : List D} {r : Rho} (h : (x == y) = true) : getO ((y, .own l) :: r) x = some (.list l) := by
  unfold getO
  rw [List.lookup_cons, h]
theorem getO_miss {x y : Nat} {v : Var} {r : Rho} (h : (x == y) = false) : getO ((y, v) :: r) x = getO r x := by
  unfold getO
  rw [List.lookup_cons, h]
noncomputable def idxO (o : Option D) (r : Rz D) : Rz D := match o with
  | some d => r.bind fun j k => idxD d j k
  | Option.none => .stuck
theorem idxO_some {d : D} {r : Rz D} : idxO (some d) r = r.bind fun j k => idxD d j k := rfl
theorem w_idxV {x : Nat} {i : X} (h : (getO ρ x).isSome = true) : ev Φ Γ (n + 2) .val ρ k (.idx (.var x) i) = idxO (getO ρ x) (ev Φ Γ (n + 1) .val ρ k i) := by
  unfold getO at h ⊢
  cases hq : ρ.lookup x with
  | none => rw [hq] at h; cases h
  | some q =>
    cases q with
    | val d' =>
      show (match ρ.lookup x with | some (.own l) => _ | _ => _) = _
      rw [hq]
      show (getV ρ x k).bind _ = _
      unfold getV
      rw [hq]
      rfl
    | own l =>
      show (match ρ.lookup x with | some (.own l) => _ | _ => _) = _
      rw [hq]
      rfl
theorem w_upto {a i : X} : ev Φ Γ (n + 1) .val ρ k (.upto a i) = (ev Φ Γ n .val ρ k a).bind fun x k => (ev Φ Γ n .val ρ k i).bind fun j k => uptoD x j k := rfl
theorem w_from {a i : X} : ev Φ Γ (n + 1) .val ρ k (.from_ a i) = (ev Φ Γ n .val ρ k a).bind fun x k => (ev Φ Γ n .val ρ k i).bind fun j k => fromD x j k := rfl
theorem w_bi {b : Bi} {l : List X} : ev Φ Γ (n + 1) .val ρ k (.bi b l) = (evL (fun k e => ev Φ Γ n .val ρ k e) l k).bind fun ds k => biD b ds k := rfl
noncomputable def callP (Φ : PhiT) (f : Nat) (ds : List D) (k : Nat) : Rz D := match Φ f with
  | some φ => φ k ds
  | Option.none => .stuck
theorem callP_hit {f : Nat} {φ : Nat → List D → Rz D} {ds : List D} (h : Φ f = some φ) : callP Φ f ds k = φ k ds := by unfold callP; rw [h]
noncomputable def callE (o : Option (Nat → List D → Rz D)) (r : Rz (List D)) : Rz D := match o with
  | some φ => r.bind fun ds k => φ k ds
  | Option.none => .stuck
theorem callE_some {φ : Nat → List D → Rz D} {r : Rz (List D)} : callE (some φ) r = r.bind fun ds k => φ k ds := rfl
theorem w_call {f : Nat} {l : List X} : ev Φ Γ (n + 1) .val ρ k (.call f l) = callE (Φ f) (evL (fun k e => ev Φ Γ n .val ρ k e) l k) := by
  show (match Φ f with | some φ => _ | Option.none => _) = _
  cases Φ f <;> rfl
noncomputable def litT (ds : List D) (k : Nat) : Rz D := if ds.length ≤ 1000 then .ok (.tuple ds) k else .stuck
noncomputable def litL (ds : List D) (k : Nat) : Rz D := if ds.length ≤ 1000 then .ok (.list ds) k else .stuck
theorem w_tup {l : List X} : ev Φ Γ (n + 1) .val ρ k (.tup l) = (evL (fun k e => ev Φ Γ n .val ρ k e) l k).bind litT := rfl
theorem w_lst {l : List X} : ev Φ Γ (n + 1) .val ρ k (.lst l) = (evL (fun k e => ev Φ Γ n .val ρ k e) l k).bind litL := rfl
noncomputable def mapD (f : D → Nat → Rz D) (d : D) (k : Nat) : Rz D := match d with
  | .list items => (evM f items k).bind fun ys k => .ok (.list ys) k
  | _ => .stuck
theorem mapD_l {f : D → Nat → Rz D} {items : List D} : mapD f (.list items) k = (evM f items k).bind fun ys k => .ok (.list ys) k := rfl
theorem w_comp {a it : X} {x : Nat} : ev Φ Γ (n + 1) .val ρ k (.comp a x it) = (ev Φ Γ n .iter ρ k it).bind (mapD fun d k => ev Φ Γ n .val ((x, .val d) :: ρ) k a) := rfl
noncomputable def notD (d : D) (k : Nat) : Rz D := match d with
  | .bool b => .ok (.bool (!b)) k
  | _ => .stuck
theorem t_not {a : X} : ev Φ Γ (n + 1) .test ρ k (.not a) = (ev Φ Γ n .test ρ k a).bind notD := rfl
theorem t_band {l : List X} : ev Φ Γ (n + 1) .test ρ k (.band l) = andT (fun k e => ev Φ Γ n .test ρ k e) l k := rfl
theorem t_bor {l : List X} : ev Φ Γ (n + 1) .test ρ k (.bor l) = orT (fun k e => ev Φ Γ n .test ρ k e) l k := rfl
theorem t_cmp {o : CmpOp} {a b : X} : ev Φ Γ (n + 1) .test ρ k (.cmp o a b) = (ev Φ Γ n .val ρ k (.cmp o a b)).bind truD := rfl
theorem t_call {f : Nat} {l : List X} : ev Φ Γ (n + 1) .test ρ k (.call f l) = (ev Φ Γ n .val ρ k (.call f l)).bind truD := rfl
theorem t_var {x : Nat} : ev Φ Γ (n + 1) .test ρ k (.var x) = (ev Φ Γ n .val ρ k (.var x)).bind truD := rfl
theorem i_rng {l : List X} : ev Φ Γ (n + 1) .iter ρ k (.rng l) = (evL (fun k e => ev Φ Γ n .val ρ k e) l k).bind rngD := rfl
theorem i_var {x : Nat} : ev Φ Γ (n + 1) .iter ρ k (.var x) = (ev Φ Γ n .val ρ k (.var x)).bind itemsD := rfl
theorem i_glob {x : Nat} : ev Φ Γ (n + 1) .iter ρ k (.glob x) = (ev Φ Γ n .val ρ k (.glob x)).bind itemsD := rfl
theorem i_tup {l : List X} : ev Φ Γ (n + 1) .iter ρ k (.tup l) = (ev Φ Γ n .val ρ k (.tup l)).bind itemsD := rfl
theorem i_idx {a i : X} : ev Φ Γ (n + 1) .iter ρ k (.idx a i) = (ev Φ Γ n .val ρ k (.idx a i)).bind itemsD := rfl
theorem i_from {a i : X} : ev Φ Γ (n + 1) .iter ρ k (.from_ a i) = (ev Φ Γ n .val ρ k (.from_ a i)).bind itemsD := rfl
theorem l_nil {f : Nat → X → Rz D} : evL f [] k = .ok [] k := rfl
theorem l_cons {f : Nat → X → Rz D} {e : X} {r : List X} : evL f (e :: r) k = (f k e).bind fun d k => (evL f r k).bind fun ds k => .ok (d :: ds) k := rfl
noncomputable def andK (d : D) (k : Nat) (r : Rz D) : Rz D := match d with
  | .bool true => r
  | .bool false => .ok (.bool false) k
  | _ => .stuck
theorem andK_t {r : Rz D} : andK (.bool true) k r = r := rfl
theorem andK_f {r : Rz D} : andK (.bool false) k r = .ok (.bool false) k := rfl
noncomputable def orK (d : D) (k : Nat) (r : Rz D) : Rz D := match d with
  | .bool false => r
  | .bool true => .ok (.bool true) k
  | _ => .stuck
theorem orK_f {r : Rz D} : orK (.bool false) k r = r := rfl
theorem orK_t {r : Rz D} : orK (.bool true) k r = .ok (.bool true) k := rfl
theorem aT_nil {f : Nat → X → Rz D} : andT f [] k = .ok (.bool true) k := rfl
theorem aT_cons {f : Nat → X → Rz D} {e : X} {r : List X} : andT f (e :: r) k = (f k e).bind fun d k => andK d k (andT f r k) := rfl
theorem oT_nil {f : Nat → X → Rz D} : orT f [] k = .ok (.bool false) k := rfl
theorem oT_cons {f : Nat → X → Rz D} {e : X} {r : List X} : orT f (e :: r) k = (f k e).bind fun d k => orK d k (orT f r k) := rfl
theorem aV_one {f : Nat → X → Rz D} {e : X} : andV f [e] k = f k e := rfl
theorem aV_cons {f : Nat → X → Rz D} {e e' : X} {r : List X} : andV f (e :: e' :: r) k = (f k e).bind fun d k => andK d k (andV f (e' :: r) k) := rfl
theorem oV_one {f : Nat → X → Rz D} {e : X} : orV f [e] k = f k e := rfl
theorem oV_cons {f : Nat → X → Rz D} {e e' : X} {r : List X} : orV f (e :: e' :: r) k = (f k e).bind fun d k => orK d k (orV f (e' :: r) k) := rfl
theorem m_nil {f : D → Nat → Rz D} : evM f [] k = .ok [] k := rfl
theorem m_cons {f : D → Nat → Rz D} {d : D} {r : List D} : evM f (d :: r) k = (f d k).bind fun y k => (evM f r k).bind fun ys k => .ok (y :: ys) k := rfl

noncomputable def goS (p : Fl × Rho) (k : Nat) (r : Rho → RzS) : RzS := match p with
  | (.next, ρ) => r ρ
  | q => .ok q k
theorem goS_n {r : Rho → RzS} : goS (.next, ρ) k r = r ρ := rfl
theorem goS_r {d : D} {r : Rho → RzS} : goS (.ret d, ρ) k r = .ok (.ret d, ρ) k := rfl
theorem x_nil {f : Rho → Nat → S → RzS} : exL f [] ρ k = .ok (.next, ρ) k := rfl
theorem x_cons {f : Rho → Nat → S → RzS} {s : S} {r : List S} : exL f (s :: r) ρ k = (f ρ k s).bind fun p k => goS p k fun ρ => exL f r ρ k := rfl
theorem x_ret {e : X} : ex Φ Γ (n + 1) ρ k (.ret e) = (ev Φ Γ n .val (frz ρ) k e).bind fun d k => .ok (.ret d, ρ) k := rfl
theorem x_newL {x : Nat} : ex Φ Γ (n + 1) ρ k (.newL x) = .ok (.next, Rho.put x (.own []) ρ) k := rfl
theorem x_assign {x : Nat} {e : X} : ex Φ Γ (n + 1) ρ k (.assign x e) = (ev Φ Γ n .val ρ k e).bind fun d k => .ok (.next, Rho.put x (.val d) ρ) k := rfl
noncomputable def massD (xs : List Nat) (ρ : Rho) (d : D) (k : Nat) : RzS := match d with
  | .tuple ds => if ds.length = xs.length then .ok (.next, putAll xs ds ρ) k else .stuck
  | .list ds => if ds.length = xs.length then .ok (.next, putAll xs ds ρ) k else .stuck
  | _ => .stuck
theorem x_mass {xs : List Nat} {e : X} : ex Φ Γ (n + 1) ρ k (.mass xs e) = (ev Φ Γ n .val ρ k e).bind (massD xs ρ) := rfl
theorem massD_t {xs : List Nat} {ds : List D} (h : ds.length = xs.length) : massD xs ρ (.tuple ds) k = .ok (.next, putAll xs ds ρ) k := if_pos h
theorem massD_l {xs : List Nat} {ds : List D} (h : ds.length = xs.length) : massD xs ρ (.list ds) k = .ok (.next, putAll xs ds ρ) k := if_pos h
noncomputable def selS (d : D) (a b : RzS) : RzS := match d with
  | .bool true => a
  | .bool false => b
  | _ => .stuck
theorem selS_t {a b : RzS} : selS (.bool true) a b = a := rfl
theorem selS_f {a b : RzS} : selS (.bool false) a b = b := rfl
theorem x_ite {c : X} {a b : List S} : ex Φ Γ (n + 1) ρ k (.ite c a b) = (ev Φ Γ n .test ρ k c).bind fun d k => selS d (exL (fun ρ k s => ex Φ Γ n ρ k s) a ρ k) (exL (fun ρ k s => ex Φ Γ n ρ k s) b ρ k) := rfl
noncomputable def lpS (d : D) (k : Nat) (go stop : RzS) : RzS := match d with
  | .bool true => go
  | .bool false => stop
  | _ => .stuck
theorem x_whl {c : X} {b : List S} : ex Φ Γ (n + 1) ρ k (.whl c b) = exW (fun ρ k => ev Φ Γ n .test ρ k c) (fun ρ k => exL (fun ρ k s => ex Φ Γ n ρ k s) b ρ k) n ρ k := rfl
theorem W_succ {t : Rho → Nat → Rz D} {f : Rho → Nat → RzS} : exW t f (n + 1) ρ k = (t ρ k).bind fun d k => lpS d k ((f ρ k).bind fun p k => goS p k fun ρ => exW t f n ρ k) (.ok (.next, ρ) k) := rfl
theorem lp_t {a b : RzS} : lpS (.bool true) k a b = a := rfl
theorem lp_f {a b : RzS} : lpS (.bool false) k a b = b := rfl
noncomputable def forS (f : Rho → Nat → RzS) (x : Nat) (ρ : Rho) (d : D) (k : Nat) : RzS := match d with
  | .list items => exF f x items ρ k
  | _ => .stuck
theorem x_fo {x : Nat} {it : X} {b : List S} : ex Φ Γ (n + 1) ρ k (.fo x it b) = (ev Φ Γ n .iter ρ k it).bind (forS (fun ρ k => exL (fun ρ k s => ex Φ Γ n ρ k s) b ρ k) x ρ) := rfl
theorem forS_l {f : Rho → Nat → RzS} {x : Nat} {items : List D} : forS f x ρ (.list items) k = exF f x items ρ k := rfl
theorem F_nil {f : Rho → Nat → RzS} {x : Nat} : exF f x [] ρ k = .ok (.next, ρ) k := rfl
theorem F_cons {f : Rho → Nat → RzS} {x : Nat} {d : D} {r : List D} : exF f x (d :: r) ρ k = (f (Rho.put x (.val d) ρ) k).bind fun p k => goS p k fun ρ => exF f x r ρ k := rfl
noncomputable def tryR (r : RzS) : RzS := match r with
  | .ok p k => .ok p k
  | .exc _ _ => .stuck
  | .stuck => .stuck
theorem x_try {b : List S} {h : Hs} {x : Nat} : ex Φ Γ (n + 1) ρ k (.try_ b x h) = tryR (exL (fun ρ k s => ex Φ Γ n ρ k s) b ρ k) := rfl
theorem try_ok {p : Fl × Rho} : tryR (.ok p k) = .ok p k := rfl
noncomputable def noneS (ρ : Rho) (d : D) (k : Nat) : RzS := match d with
  | .none => .ok (.next, ρ) k
  | _ => .stuck
theorem x_eval {e : X} : ex Φ Γ (n + 1) ρ k (.eval e) = (ev Φ Γ n .val ρ k e).bind (noneS ρ) := rfl
theorem noneS_n : noneS ρ .none k = .ok (.next, ρ) k := rfl
noncomputable def appO (o : Option (List D)) (x : Nat) (ρ : Rho) (r : Rz D) : RzS := match o with
  | some l => if l.length ≤ 1000000 then r.bind fun d k => .ok (.next, Rho.put x (.own (l ++ [d])) ρ) k else .stuck
  | Option.none => .stuck
theorem x_app {x : Nat} {e : X} : ex Φ Γ (n + 1) ρ k (.app x e) = appO (own? ρ x) x ρ (ev Φ Γ n .val ρ k e) := rfl
theorem appO_some {l : List D} {x : Nat} {r : Rz D} (h : l.length ≤ 1000000) : appO (some l) x ρ r = r.bind fun d k => .ok (.next, Rho.put x (.own (l ++ [d])) ρ) k := if_pos h
theorem app0 {x : Nat} {r : Rz D} : appO (some []) x ρ r = r.bind fun d k => .ok (.next, Rho.put x (.own [d]) ρ) k := rfl
theorem own_hit {x y : Nat} {l : List D} {r : Rho} (h : (x == y) = true) : own? ((y, .own l) :: r) x = some l := by
  unfold own?
  rw [List.lookup_cons, h]
theorem own_miss {x y : Nat} {v : Var} {r : Rho} (h : (x == y) = false) : own? ((y, v) :: r) x = own? r x := by
  unfold own?
  rw [List.lookup_cons, h]
theorem put_nil {x : Nat} {v : Var} : Rho.put x v [] = [(x, v)] := rfl
theorem put_hit {x y : Nat} {v u : Var} {r : Rho} (h : (x == y) = true) : Rho.put x v ((y, u) :: r) = (x, v) :: r := if_pos h
theorem put_miss {x y : Nat} {v u : Var} {r : Rho} (h : (x == y) = false) : Rho.put x v ((y, u) :: r) = (y, u) :: Rho.put x v r := if_neg (by simpa using h)
theorem pa_nil {ds : List D} : putAll [] ds ρ = ρ := by cases ds <;> rfl
theorem pa_cons {x : Nat} {xs : List Nat} {d : D} {ds : List D} : putAll (x :: xs) (d :: ds) ρ = putAll xs ds (Rho.put x (.val d) ρ) := rfl
theorem frz_nil : frz [] = [] := rfl
theorem frz_v {x : Nat} {d : D} {r : Rho} : frz ((x, .val d) :: r) = (x, .val d) :: frz r := rfl
theorem frz_o {x : Nat} {l : List D} {r : Rho} : frz ((x, .own l) :: r) = (x, .val (.list l)) :: frz r := rfl
noncomputable def retR (r : RzS) : Rz D := match r with
  | .ok (.ret d, _) k => .ok d k
  | .ok (.next, _) k => .ok .none k
  | .exc kd k => .exc kd k
  | .stuck => .stuck
theorem retR_r {d : D} : retR (.ok (.ret d, ρ) k) = .ok d k := rfl
theorem retR_n : retR (.ok (.next, ρ) k) = .ok .none k := rfl
theorem run_ {ps : List Nat} {B : List S} {ds : List D} (h : ds.length = ps.length) : runB Φ Γ n ps B k ds = retR (exL (fun ρ k s => ex Φ Γ n ρ k s) B (putAll ps ds []) k) := if_pos h

theorem tru_b {b : Bool} : truD (.bool b) k = .ok (.bool b) k := rfl
theorem not_b {b : Bool} : notD (.bool b) k = .ok (.bool (!b)) k := rfl
theorem neg_i {i : Int} : negD (.int i) k = .ok (.int (-i)) k := rfl
theorem add_i {x y : Int} : binD .Add (.int x) (.int y) k = .ok (.int (x + y)) k := rfl
theorem add_l {x y : List D} (h : x.length + y.length ≤ sizeLine) : binD .Add (.list x) (.list y) k = .ok (.list (x ++ y)) k := if_pos h
theorem sub_i {x y : Int} : binD .Sub (.int x) (.int y) k = .ok (.int (x - y)) k := rfl
theorem sub_b {x y : Bool} : binD .Sub (.bool x) (.bool y) k = .ok (.int (b2i x - b2i y)) k := rfl
theorem mul_i {x y : Int} (h : mulOk x y = true) : binD .Mult (.int x) (.int y) k = .ok (.int (x * y)) k := if_pos h
theorem mul_l {x : List D} {y : Int} (h : y < 1048576 ∧ -1048576 < y ∧ x.length * y.toNat ≤ sizeLine) : binD .Mult (.list x) (.int y) k = .ok (.list (List.replicate y.toNat x).flatten) k := if_pos h
theorem div_i {x y : Int} (h : y ≠ 0 ∧ Builtin.divisionGoesByPylong x y = false) : binD .FloorDiv (.int x) (.int y) k = .ok (.int (x.fdiv y)) k := if_pos h
theorem mod_i {x y : Int} (h : y ≠ 0) : binD .Mod (.int x) (.int y) k = .ok (.int (x.fmod y)) k := if_pos h
theorem pow_i {x y : Int} (h : 0 ≤ y ∧ (Builtin.Int.intBits x : Int) * y ≤ 134217728) : binD .Pow (.int x) (.int y) k = .ok (.int (x ^ y.toNat)) k := if_pos h
theorem lt_i {x y : Int} : cmpD .Lt (.int x) (.int y) k = .ok (.bool (decide (x < y))) k := rfl
theorem le_i {x y : Int} : cmpD .LtE (.int x) (.int y) k = .ok (.bool (decide (x ≤ y))) k := rfl
theorem gt_i {x y : Int} : cmpD .Gt (.int x) (.int y) k = .ok (.bool (decide (y < x))) k := rfl
theorem ge_i {x y : Int} : cmpD .GtE (.int x) (.int y) k = .ok (.bool (decide (y ≤ x))) k := rfl
theorem eq_d {x y : D} (h : (shp x && shp y) = true) : cmpD .Eq x y k = .ok (.bool (PyData.eqv x y)) k := if_pos h
theorem ne_d {x y : D} (h : (shp x && shp y) = true) : cmpD .NotEq x y k = .ok (.bool (!PyData.eqv x y)) k := if_pos h
theorem in_d {x : D} {ys : List D} (h : (shp x && shp (.tuple ys)) = true) : cmpD .In x (.tuple ys) k = .ok (.bool (ys.any fun y => PyData.eqv y x)) k := if_pos h
theorem ni_d {x : D} {ys : List D} (h : (shp x && shp (.tuple ys)) = true) : cmpD .NotIn x (.tuple ys) k = .ok (.bool (!ys.any fun y => PyData.eqv y x)) k := if_pos h
theorem ix_t {l : List D} {j : Int} {d : D} (h : 0 ≤ j ∧ j < 1048576) (e : l[j.toNat]? = some d) : idxD (.tuple l) (.int j) k = .ok d k := by
  show (if 0 ≤ j ∧ j < 1048576 then (match l[j.toNat]? with | some d => Rz.ok d k | Option.none => .stuck) else .stuck) = _
  rw [if_pos h, e]
theorem ix_l {l : List D} {j : Int} {d : D} (h : 0 ≤ j ∧ j < 1048576) (e : l[j.toNat]? = some d) : idxD (.list l) (.int j) k = .ok d k := by
  show (if 0 ≤ j ∧ j < 1048576 then (match l[j.toNat]? with | some d => Rz.ok d k | Option.none => .stuck) else .stuck) = _
  rw [if_pos h, e]
theorem ix_t0 {a : D} {l : List D} : idxD (.tuple (a :: l)) (.int 0) k = .ok a k := rfl
theorem ix_t1 {a b : D} {l : List D} : idxD (.tuple (a :: b :: l)) (.int 1) k = .ok b k := rfl
theorem ix_t2 {a b c : D} {l : List D} : idxD (.tuple (a :: b :: c :: l)) (.int 2) k = .ok c k := rfl
theorem ix_l0 {a : D} {l : List D} : idxD (.list (a :: l)) (.int 0) k = .ok a k := rfl
theorem ix_l1 {a b : D} {l : List D} : idxD (.list (a :: b :: l)) (.int 1) k = .ok b k := rfl
theorem up_l {l : List D} {j : Int} (h : 0 ≤ j ∧ l.length ≤ sizeLine) : uptoD (.list l) (.int j) k = .ok (.list (l.take j.toNat)) k := if_pos h
theorem fr_l {l : List D} {j : Int} (h : 0 ≤ j ∧ l.length ≤ sizeLine) : fromD (.list l) (.int j) k = .ok (.list (l.drop j.toNat)) k := if_pos h
theorem tup_d {ds : List D} (h : ds.length ≤ 1000) : litT ds k = .ok (.tuple ds) k := if_pos h
theorem lit2 {a b : D} : litT [a, b] k = .ok (.tuple [a, b]) k := if_pos (by show 2 ≤ 1000; omega)
theorem lit3 {a b c : D} : litT [a, b, c] k = .ok (.tuple [a, b, c]) k := if_pos (by show 3 ≤ 1000; omega)
theorem lst0 : litL [] k = .ok (.list []) k := if_pos (by show 0 ≤ 1000; omega)
theorem lst1 {a : D} : litL [a] k = .ok (.list [a]) k := if_pos (by show 1 ≤ 1000; omega)
theorem lst2 {a b : D} : litL [a, b] k = .ok (.list [a, b]) k := if_pos (by show 2 ≤ 1000; omega)
theorem lst3 {a b c : D} : litL [a, b, c] k = .ok (.list [a, b, c]) k := if_pos (by show 3 ≤ 1000; omega)
theorem mas2 {x y : Nat} {a b : D} : massD [x, y] ρ (.tuple [a, b]) k = .ok (.next, putAll [x, y] [a, b] ρ) k := rfl
theorem mas2l {x y : Nat} {a b : D} : massD [x, y] ρ (.list [a, b]) k = .ok (.next, putAll [x, y] [a, b] ρ) k := rfl
theorem mas3 {x y z : Nat} {a b c : D} : massD [x, y, z] ρ (.tuple [a, b, c]) k = .ok (.next, putAll [x, y, z] [a, b, c] ρ) k := rfl
theorem lst_d {ds : List D} (h : ds.length ≤ 1000) : litL ds k = .ok (.list ds) k := if_pos h
theorem bi_abs {x : Int} : biD .abs [.int x] k = .ok (.int (if x < 0 then -x else x)) k := rfl
theorem bi_lenl {l : List D} (h : l.length ≤ sizeLine) : biD .len [.list l] k = .ok (.int l.length) k := if_pos h
theorem bi_lent {l : List D} (h : l.length ≤ sizeLine) : biD .len [.tuple l] k = .ok (.int l.length) k := if_pos h
theorem bi_min {x y : Int} : biD .min [.int x, .int y] k = .ok (.int (if y < x then y else x)) k := rfl
theorem bi_max {x y : Int} : biD .max [.int x, .int y] k = .ok (.int (if y > x then y else x)) k := rfl
theorem bi_listl {l : List D} (h : l.length ≤ sizeLine) : biD .list [.list l] k = .ok (.list l) k := if_pos h
theorem rng_1 {b : Int} (h : -1048576 < b ∧ b < 1048576) : rngD [.int b] k = .ok (.list (intsFrom 0 b.toNat)) k := if_pos h
theorem rng_2 {a b : Int} (h : -1048576 < a ∧ a < 1048576 ∧ -1048576 < b ∧ b < 1048576) : rngD [.int a, .int b] k = .ok (.list (intsFrom a (b - a).toNat)) k := if_pos h
theorem it_l {l : List D} (h : l.length ≤ sizeLine) : itemsD (.list l) k = .ok (.list l) k := if_pos h
theorem it_t {l : List D} (h : l.length ≤ sizeLine) : itemsD (.tuple l) k = .ok (.list l) k := if_pos h
end
end Mine

open PySem PySem.W PySem.Spec PySem.Calls PyProof.Rows
set_option Elab.async false
set_option maxRecDepth 100000
namespace Mine
noncomputable abbrev n_CasFail : Nat := 2083145872171398
noncomputable abbrev n_FAR : Nat := 6898060
noncomputable abbrev n_LOW : Nat := 7065496
noncomputable abbrev n_MOST_BITS : Nat := 30503526977814253466
noncomputable abbrev n_MOST_KINDS : Nat := 3902151299854716489626
noncomputable abbrev n_MOST_SQUARED : Nat := 59401808901696832125128602
noncomputable abbrev n_MOST_TURNS : Nat := 3903597061506693975962
noncomputable abbrev n_R0 : Nat := 45220
noncomputable abbrev n_R1 : Nat := 45476
noncomputable abbrev n_STILL : Nat := 109842846886
noncomputable abbrev n_TRIES : Nat := 113571582632
noncomputable abbrev n_law_beginning_right : Nat := 5331682135092676485680014975078959894555838
noncomputable abbrev n_law_due : Nat := 258867145003297982
noncomputable abbrev n_law_part : Nat := 35293319448998505662
noncomputable abbrev n_law_pole_right : Nat := 155172372908932928304603691281598
noncomputable abbrev n_law_power : Nat := 4478802666036699131070
noncomputable abbrev n_law_quotient_right : Nat := 41653766680412037947979981562929535315134
noncomputable abbrev n_law_root_right : Nat := 155172372908935093410261988601022
noncomputable abbrev n_law_take : Nat := 33123710603390676158
noncomputable abbrev n_law_told : Nat := 32980844460523973822
noncomputable abbrev n_law_x : Nat := 17093935295678
noncomputable abbrev n_a : Nat := 450
noncomputable abbrev n_above : Nat := 123442029250
noncomputable abbrev n_abs : Nat := 7987906
noncomputable abbrev n_at : Nat := 62658
noncomputable abbrev n_b : Nat := 452
noncomputable abbrev n_base : Nat := 964288964
noncomputable abbrev n_begin : Nat := 128219080132
noncomputable abbrev n_begun_series : Nat := 73682676500966848786064836
noncomputable abbrev n_below : Nat := 133076248004
noncomputable abbrev n_bits_of : Nat := 2030780745935300
noncomputable abbrev n_bottom : Nat := 16346599026628
noncomputable abbrev n_box : Nat := 8155076
noncomputable abbrev n_c : Nat := 454
noncomputable abbrev n_call : Nat := 993419718
noncomputable abbrev n_cut : Nat := 8025542
noncomputable abbrev n_dict : Nat := 1026681288
noncomputable abbrev n_e : Nat := 458
noncomputable abbrev n_exact_root : Nat := 4517128324096860420298
noncomputable abbrev n_exponent : Nat := 275694147694262474
noncomputable abbrev n_exponent_of : Nat := 545133556644017784518858
noncomputable abbrev n_far : Nat := 7954892
noncomputable abbrev n_far_limit : Nat := 35283291428796064204
noncomputable abbrev n_fastest : Nat := 2154204151538124
noncomputable abbrev n_first : Nat := 131482610124
noncomputable abbrev n_form : Nat := 997814220
noncomputable abbrev n_found : Nat := 122871803852
noncomputable abbrev n_from_begin : Nat := 4405574047172610486988
noncomputable abbrev n_from_zero : Nat := 34572779380144599756
noncomputable abbrev n_g : Nat := 462
noncomputable abbrev n_gadd : Nat := 959603150
noncomputable abbrev n_gap : Nat := 7889358
noncomputable abbrev n_gcd : Nat := 7496654
noncomputable abbrev n_ginsert : Nat := 2154135427705294
noncomputable abbrev n_gmul : Nat := 993717710
noncomputable abbrev n_gpower : Nat := 16684840120526
noncomputable abbrev n_gratio_power : Nat := 73380702880344733136253646
noncomputable abbrev n_greatest : Nat := 275738131321516750
noncomputable abbrev n_groot : Nat := 131465736910
noncomputable abbrev n_growth_of : Nat := 33272310985548886734
noncomputable abbrev n_growth_of_other : Nat := 153889909031322103575479378768590
noncomputable abbrev n_high : Nat := 976480720
noncomputable abbrev n_inner : Nat := 130350018258
noncomputable abbrev n_is_above : Nat := 258876698528838610
noncomputable abbrev n_is_odd : Nat := 15722196497362
noncomputable abbrev n_is_up : Nat := 129342895058
noncomputable abbrev n_is_vast : Nat := 2154202011792338
noncomputable abbrev n_k : Nat := 470
noncomputable abbrev n_kind : Nat := 959932886
noncomputable abbrev n_kind_compare : Nat := 69481983661243615176780246
noncomputable abbrev n_kind_product : Nat := 73980404943955250969536982
noncomputable abbrev n_ladd : Nat := 959603160
noncomputable abbrev n_law : Nat := 8118744
noncomputable abbrev n_left : Nat := 1026778584
noncomputable abbrev n_len : Nat := 7824856
noncomputable abbrev n_less : Nat := 1023010264
noncomputable abbrev n_let : Nat := 8021464
noncomputable abbrev n_letter : Nat := 16684827698648
noncomputable abbrev n_limit : Nat := 131440503256
noncomputable abbrev n_limit_far : Nat := 34985991597880437208
noncomputable abbrev n_limit_near : Nat := 4478205929132964375000
noncomputable abbrev n_linverse : Nat := 258850518107384280
noncomputable abbrev n_list : Nat := 1027205592
noncomputable abbrev n_lmul : Nat := 993717720
noncomputable abbrev n_longest : Nat := 2154204096851928
noncomputable abbrev n_low : Nat := 8122328
noncomputable abbrev n_lplain : Nat := 16412017324248
noncomputable abbrev n_lpower : Nat := 16684840120536
noncomputable abbrev n_ltrim : Nat := 127682573528
noncomputable abbrev n_many : Nat := 1048011226
noncomputable abbrev n_max : Nat := 8151514
noncomputable abbrev n_middle : Nat := 15795164965338
noncomputable abbrev n_min : Nat := 7825882
noncomputable abbrev n_mirrored : Nat := 257601478250293722
noncomputable abbrev n_mixed : Nat := 122834151898
noncomputable abbrev n_moved : Nat := 122834087898
noncomputable abbrev n_n : Nat := 476
noncomputable abbrev n_name : Nat := 964092380
noncomputable abbrev n_need_begin : Nat := 4405574047172572407260
noncomputable abbrev n_number : Nat := 16684751975900
noncomputable abbrev n_of_call : Nat := 2083352151582430
noncomputable abbrev n_of_power : Nat := 273364420534462174
noncomputable abbrev n_of_root : Nat := 2153934633297630
noncomputable abbrev n_of_sum : Nat := 16349815367390
noncomputable abbrev n_of_term : Nat := 2092562780251870
noncomputable abbrev n_off : Nat := 7562974
noncomputable abbrev n_one : Nat := 7532254
noncomputable abbrev n_order : Nat := 130349691614
noncomputable abbrev n_other : Nat := 130349823198
noncomputable abbrev n_others : Nat := 16760463193310
noncomputable abbrev n_place : Nat := 123361881312
noncomputable abbrev n_poly : Nat := 1047949280
noncomputable abbrev n_poly_sum : Nat := 267875375058939872
noncomputable abbrev n_radd : Nat := 959603172
noncomputable abbrev n_range : Nat := 123379081700
noncomputable abbrev n_rat : Nat := 8020452
noncomputable abbrev n_rcompare : Nat := 258840559651120100
noncomputable abbrev n_rdiv : Nat := 1035265252
noncomputable abbrev n_rest : Nat := 1027204580
noncomputable abbrev n_rinv : Nat := 1035430372
noncomputable abbrev n_rmul : Nat := 993717732
noncomputable abbrev n_rneg : Nat := 972222180
noncomputable abbrev n_root : Nat := 1027076068
noncomputable abbrev n_root_of : Nat := 2030780749967332
noncomputable abbrev n_row : Nat := 8122340
noncomputable abbrev n_rpower : Nat := 16684840120548
noncomputable abbrev n_rsub : Nat := 951776228
noncomputable abbrev n_sadd : Nat := 959603174
noncomputable abbrev n_satan : Nat := 128185950694
noncomputable abbrev n_scos : Nat := 1022878694
noncomputable abbrev n_script : Nat := 16828126028774
noncomputable abbrev n_sderive : Nat := 2022471053272294
noncomputable abbrev n_sexp : Nat := 1010591206
noncomputable abbrev n_side : Nat := 963799526
noncomputable abbrev n_sines : Nat := 130886887910
noncomputable abbrev n_sintegrate : Nat := 4241131976874675104230
noncomputable abbrev n_sinverse : Nat := 258850518107384294
noncomputable abbrev n_slog : Nat := 972549350
noncomputable abbrev n_smul : Nat := 993717734
noncomputable abbrev n_some : Nat := 964095974
noncomputable abbrev n_sorted : Nat := 15722754961382
noncomputable abbrev n_spot : Nat := 1027076326
noncomputable abbrev n_spower : Nat := 16684840120550
noncomputable abbrev n_square : Nat := 15798374167014
noncomputable abbrev n_sscale : Nat := 15795152352230
noncomputable abbrev n_ssin : Nat := 1001714662
noncomputable abbrev n_ssin_cos : Nat := 274576898383999974
noncomputable abbrev n_step : Nat := 1009972454
noncomputable abbrev n_str : Nat := 7959782
noncomputable abbrev n_swhole_power : Nat := 73380702880344047531358182
noncomputable abbrev n_t : Nat := 488
noncomputable abbrev n_term : Nat := 997811688
noncomputable abbrev n_times : Nat := 130886855144
noncomputable abbrev n_told : Nat := 959868904
noncomputable abbrev n_top : Nat := 7892968
noncomputable abbrev n_total : Nat := 127112212456
noncomputable abbrev n_tuple : Nat := 123400123880
noncomputable abbrev n_turn : Nat := 1002010088
noncomputable abbrev n_turned : Nat := 15722729797096
noncomputable abbrev n_up : Nat := 61674
noncomputable abbrev n_way : Nat := 8184302
noncomputable abbrev n_wrong : Nat := 124482220782
noncomputable def P_gcd : List Str := ["a", "b"]
noncomputable def Q_gcd : List Nat := [450, 452]
noncomputable def B_gcd : List S := [.mass [450, 452] (.tup [(.bi .abs [(.var 450)]), (.bi .abs [(.var 452)])]), .whl (.cmp .NotEq (.var 452) (.int 0)) [.mass [450, 452] (.tup [(.var 452), (.bin .Mod (.var 450) (.var 452))])], .ret (.var 450)]
noncomputable def P_bits_of : List Str := ["n"]
noncomputable def Q_bits_of : List Nat := [476]
noncomputable def B_bits_of : List S := [.assign 122871803852 (.int 0), .fo 1048011226 (.tup [(.int 4096), (.int 64), (.int 1)]) [.assign 1009972454 (.bin .Pow (.int 2) (.var 1048011226)), .whl (.cmp .GtE (.var 476) (.var 1009972454)) [.mass [476, 122871803852] (.tup [(.bin .FloorDiv (.var 476) (.var 1009972454)), (.bin .Add (.var 122871803852) (.var 1048011226))])]], .ret (.bin .Add (.var 122871803852) (.var 476))]
noncomputable def P_root_of : List Str := ["n", "k"]
noncomputable def Q_root_of : List Nat := [476, 470]
noncomputable def B_root_of : List S := [.ite (.cmp .GtE (.var 470) (.call 2030780745935300 [(.var 476)])) [.ret (.bi .min [(.var 476), (.int 1)])] [], .mass [8122328, 976480720] (.tup [(.int 0), (.int 1)]), .whl (.cmp .LtE (.bin .Pow (.var 976480720) (.var 470)) (.var 476)) [.mass [8122328, 976480720] (.tup [(.var 976480720), (.bin .Mult (.int 2) (.var 976480720))])], .whl (.cmp .Gt (.bin .Sub (.var 976480720) (.var 8122328)) (.int 1)) [.assign 15795164965338 (.bin .FloorDiv (.bin .Add (.var 8122328) (.var 976480720)) (.int 2)), .ite (.cmp .LtE (.bin .Pow (.var 15795164965338) (.var 470)) (.var 476)) [.assign 8122328 (.var 15795164965338)] [.assign 976480720 (.var 15795164965338)]], .ret (.var 8122328)]
noncomputable def P_rat : List Str := ["top", "bottom"]
noncomputable def Q_rat : List Nat := [7892968, 16346599026628]
noncomputable def B_rat : List S := [.ite (.cmp .Eq (.var 16346599026628) (.int 0)) [.rai (.str "division by zero") (.str "a ratio with the bottom 0")] [], .assign 462 (.ite (.cmp .Gt (.var 16346599026628) (.int 0)) (.call 7496654 [(.var 7892968), (.var 16346599026628)]) (.bin .Sub (.int 0) (.call 7496654 [(.var 7892968), (.var 16346599026628)]))), .ret (.tup [(.bin .FloorDiv (.var 7892968) (.var 462)), (.bin .FloorDiv (.var 16346599026628) (.var 462))])]
noncomputable def P_radd : List Str := ["a", "b"]
noncomputable def Q_radd : List Nat := [450, 452]
noncomputable def B_radd : List S := [.ret (.call 8020452 [(.bin .Add (.bin .Mult (.idx (.var 450) (.int 0)) (.idx (.var 452) (.int 1))) (.bin .Mult (.idx (.var 452) (.int 0)) (.idx (.var 450) (.int 1)))), (.bin .Mult (.idx (.var 450) (.int 1)) (.idx (.var 452) (.int 1)))])]
noncomputable def P_rsub : List Str := ["a", "b"]
noncomputable def Q_rsub : List Nat := [450, 452]
noncomputable def B_rsub : List S := [.ret (.call 8020452 [(.bin .Sub (.bin .Mult (.idx (.var 450) (.int 0)) (.idx (.var 452) (.int 1))) (.bin .Mult (.idx (.var 452) (.int 0)) (.idx (.var 450) (.int 1)))), (.bin .Mult (.idx (.var 450) (.int 1)) (.idx (.var 452) (.int 1)))])]
noncomputable def P_rmul : List Str := ["a", "b"]
noncomputable def Q_rmul : List Nat := [450, 452]
noncomputable def B_rmul : List S := [.ret (.call 8020452 [(.bin .Mult (.idx (.var 450) (.int 0)) (.idx (.var 452) (.int 0))), (.bin .Mult (.idx (.var 450) (.int 1)) (.idx (.var 452) (.int 1)))])]
noncomputable def P_rdiv : List Str := ["a", "b"]
noncomputable def Q_rdiv : List Nat := [450, 452]
noncomputable def B_rdiv : List S := [.ret (.call 8020452 [(.bin .Mult (.idx (.var 450) (.int 0)) (.idx (.var 452) (.int 1))), (.bin .Mult (.idx (.var 450) (.int 1)) (.idx (.var 452) (.int 0)))])]
noncomputable def P_rneg : List Str := ["a"]
noncomputable def Q_rneg : List Nat := [450]
noncomputable def B_rneg : List S := [.ret (.tup [(.bin .Sub (.int 0) (.idx (.var 450) (.int 0))), (.idx (.var 450) (.int 1))])]
noncomputable def P_rinv : List Str := ["a"]
noncomputable def Q_rinv : List Nat := [450]
noncomputable def B_rinv : List S := [.ret (.call 8020452 [(.idx (.var 450) (.int 1)), (.idx (.var 450) (.int 0))])]
noncomputable def P_rpower : List Str := ["a", "n"]
noncomputable def Q_rpower : List Nat := [450, 476]
noncomputable def B_rpower : List S := [.ite (.cmp .Lt (.var 476) (.int 0)) [.mass [450, 476] (.tup [(.call 1035430372 [(.var 450)]), (.bin .Sub (.int 0) (.var 476))])] [], .assign 275738131321516750 (.bi .max [(.bi .abs [(.idx (.var 450) (.int 0))]), (.idx (.var 450) (.int 1))]), .ite (.band [(.cmp .Gt (.var 476) (.int 1)), (.cmp .Gt (.var 275738131321516750) (.int 1)), (.cmp .Gt (.bin .Mult (.var 476) (.call 2030780745935300 [(.var 275738131321516750)])) (.glob 30503526977814253466))]) [.rai (.str "limit") (.str "a number of too many figures")] [], .ret (.tup [(.bin .Pow (.idx (.var 450) (.int 0)) (.var 476)), (.bin .Pow (.idx (.var 450) (.int 1)) (.var 476))])]
noncomputable def P_is_vast : List Str := ["a"]
noncomputable def Q_is_vast : List Nat := [450]
noncomputable def B_is_vast : List S := [.assign 275738131321516750 (.bi .max [(.bi .abs [(.idx (.var 450) (.int 0))]), (.idx (.var 450) (.int 1))]), .ret (.band [(.cmp .GtE (.var 275738131321516750) (.bin .Pow (.int 2) (.int 64))), (.cmp .Gt (.call 2030780745935300 [(.var 275738131321516750)]) (.glob 30503526977814253466))])]
noncomputable def P_rcompare : List Str := ["a", "b"]
noncomputable def Q_rcompare : List Nat := [450, 452]
noncomputable def B_rcompare : List S := [.assign 7562974 (.bin .Sub (.bin .Mult (.idx (.var 450) (.int 0)) (.idx (.var 452) (.int 1))) (.bin .Mult (.idx (.var 452) (.int 0)) (.idx (.var 450) (.int 1)))), .ret (.bin .Sub (.cmp .Gt (.var 7562974) (.int 0)) (.cmp .Lt (.var 7562974) (.int 0)))]
noncomputable def P_cut : List Str := ["a", "order"]
noncomputable def Q_cut : List Nat := [450, 130349691614]
noncomputable def B_cut : List S := [.ret (.bin .Add (.bi .list [(.upto (.var 450) (.var 130349691614))]) (.bin .Mult (.lst [(.glob 45220)]) (.bin .Sub (.var 130349691614) (.bi .len [(.var 450)]))))]
noncomputable def P_let : List Str := ["number"]
noncomputable def Q_let : List Nat := [16684751975900]
noncomputable def B_let : List S := [.ite (.call 2154202011792338 [(.var 16684751975900)]) [.rai (.str "limit") (.str "a series with too long numbers")] [], .ret (.var 16684751975900)]
noncomputable def P_sadd : List Str := ["a", "b"]
noncomputable def Q_sadd : List Nat := [450, 452]
noncomputable def B_sadd : List S := [.ret (.comp (.call 959603172 [(.idx (.var 450) (.var 62658)), (.idx (.var 452) (.var 62658))]) 62658 (.rng [(.bi .min [(.bi .len [(.var 450)]), (.bi .len [(.var 452)])])]))]
noncomputable def P_sscale : List Str := ["number", "a"]
noncomputable def Q_sscale : List Nat := [16684751975900, 450]
noncomputable def B_sscale : List S := [.ret (.comp (.call 993717732 [(.var 16684751975900), (.var 7532254)]) 7532254 (.var 450))]
noncomputable def P_mixed : List Str := ["a", "b", "at"]
noncomputable def Q_mixed : List Nat := [450, 452, 62658]
noncomputable def B_mixed : List S := [.assign 122871803852 (.glob 45220), .fo 1027076326 (.rng [(.bin .Add (.var 62658) (.int 1))]) [.ite (.band [(.cmp .NotEq (.idx (.var 450) (.var 1027076326)) (.glob 45220)), (.cmp .NotEq (.idx (.var 452) (.bin .Sub (.var 62658) (.var 1027076326))) (.glob 45220))]) [.assign 122871803852 (.call 959603172 [(.var 122871803852), (.call 993717732 [(.idx (.var 450) (.var 1027076326)), (.idx (.var 452) (.bin .Sub (.var 62658) (.var 1027076326)))])])] []], .ret (.var 122871803852)]
noncomputable def P_smul : List Str := ["a", "b"]
noncomputable def Q_smul : List Nat := [450, 452]
noncomputable def B_smul : List S := [.ret (.comp (.call 8021464 [(.call 122834151898 [(.var 450), (.var 452), (.var 62658)])]) 62658 (.rng [(.bi .min [(.bi .len [(.var 450)]), (.bi .len [(.var 452)])])]))]
noncomputable def P_sinverse : List Str := ["a"]
noncomputable def Q_sinverse : List Nat := [450]
noncomputable def B_sinverse : List S := [.ite (.band [(.cmp .Gt (.bi .len [(.var 450)]) (.int 0)), (.cmp .Eq (.idx (.var 450) (.int 0)) (.glob 45220))]) [.rai (.str "division by zero") (.str "a series that begins with 0")] [], .newL 122871803852, .fo 62658 (.rng [(.bi .len [(.var 450)])]) [.assign 127112212456 (.ite (.cmp .Eq (.var 62658) (.int 0)) (.glob 45476) (.glob 45220)), .fo 1027076326 (.rng [(.int 1), (.bin .Add (.var 62658) (.int 1))]) [.assign 127112212456 (.call 951776228 [(.var 127112212456), (.call 993717732 [(.idx (.var 450) (.var 1027076326)), (.idx (.var 122871803852) (.bin .Sub (.var 62658) (.var 1027076326)))])])], .app 122871803852 (.call 8021464 [(.call 1035265252 [(.var 127112212456), (.idx (.var 450) (.int 0))])])], .ret (.var 122871803852)]
noncomputable def P_sderive : List Str := ["a"]
noncomputable def Q_sderive : List Nat := [450]
noncomputable def B_sderive : List S := [.ret (.comp (.call 993717732 [(.tup [(.var 62658), (.int 1)]), (.idx (.var 450) (.var 62658))]) 62658 (.rng [(.int 1), (.bi .len [(.var 450)])]))]
noncomputable def P_sintegrate : List Str := ["a"]
noncomputable def Q_sintegrate : List Nat := [450]
noncomputable def B_sintegrate : List S := [.ret (.bin .Add (.lst [(.glob 45220)]) (.comp (.call 1035265252 [(.idx (.var 450) (.var 62658)), (.tup [(.bin .Add (.var 62658) (.int 1)), (.int 1)])]) 62658 (.rng [(.bi .len [(.var 450)])])))]
noncomputable def P_need_begin : List Str := ["a", "number"]
noncomputable def Q_need_begin : List Nat := [450, 16684751975900]
noncomputable def B_need_begin : List S := [.ite (.band [(.cmp .Gt (.bi .len [(.var 450)]) (.int 0)), (.cmp .NotEq (.call 258840559651120100 [(.idx (.var 450) (.int 0)), (.var 16684751975900)]) (.int 0))]) [.rai (.str "domain") (.bin .Add (.str "a series has to begin with ") (.bi .str [(.idx (.var 16684751975900) (.int 0))]))] []]
noncomputable def P_sexp : List Str := ["a"]
noncomputable def Q_sexp : List Nat := [450]
noncomputable def B_sexp : List S := [.eval (.call 4405574047172572407260 [(.var 450), (.glob 45220)]), .newL 122871803852, .fo 62658 (.rng [(.bi .len [(.var 450)])]) [.assign 127112212456 (.glob 45220), .fo 1027076326 (.rng [(.int 1), (.bin .Add (.var 62658) (.int 1))]) [.assign 127112212456 (.call 959603172 [(.var 127112212456), (.call 993717732 [(.call 993717732 [(.tup [(.var 1027076326), (.int 1)]), (.idx (.var 450) (.var 1027076326))]), (.idx (.var 122871803852) (.bin .Sub (.var 62658) (.var 1027076326)))])])], .app 122871803852 (.ite (.cmp .Eq (.var 62658) (.int 0)) (.glob 45476) (.call 8021464 [(.call 1035265252 [(.var 127112212456), (.tup [(.var 62658), (.int 1)])])]))], .ret (.var 122871803852)]
noncomputable def P_slog : List Str := ["a"]
noncomputable def Q_slog : List Nat := [450]
noncomputable def B_slog : List S := [.eval (.call 4405574047172572407260 [(.var 450), (.glob 45476)]), .ite (.cmp .Eq (.bi .len [(.var 450)]) (.int 0)) [.ret (.lst [])] [], .ret (.call 4241131976874675104230 [(.call 993717734 [(.call 2022471053272294 [(.var 450)]), (.call 258850518107384294 [(.var 450)])])])]
noncomputable def P_ssin_cos : List Str := ["a"]
noncomputable def Q_ssin_cos : List Nat := [450]
noncomputable def B_ssin_cos : List S := [.eval (.call 4405574047172572407260 [(.var 450), (.glob 45220)]), .newL2 130886887910 16760463193310, .fo 62658 (.rng [(.bi .len [(.var 450)])]) [.mass [7532254, 130349823198] (.tup [(.glob 45220), (.glob 45220)]), .fo 1027076326 (.rng [(.int 1), (.bin .Add (.var 62658) (.int 1))]) [.assign 122834087898 (.call 993717732 [(.tup [(.var 1027076326), (.int 1)]), (.idx (.var 450) (.var 1027076326))]), .assign 7532254 (.call 959603172 [(.var 7532254), (.call 993717732 [(.var 122834087898), (.idx (.var 16760463193310) (.bin .Sub (.var 62658) (.var 1027076326)))])]), .assign 130349823198 (.call 951776228 [(.var 130349823198), (.call 993717732 [(.var 122834087898), (.idx (.var 130886887910) (.bin .Sub (.var 62658) (.var 1027076326)))])])], .app 130886887910 (.ite (.cmp .Eq (.var 62658) (.int 0)) (.glob 45220) (.call 8021464 [(.call 1035265252 [(.var 7532254), (.tup [(.var 62658), (.int 1)])])])), .app 16760463193310 (.ite (.cmp .Eq (.var 62658) (.int 0)) (.glob 45476) (.call 8021464 [(.call 1035265252 [(.var 130349823198), (.tup [(.var 62658), (.int 1)])])]))], .ret (.tup [(.var 130886887910), (.var 16760463193310)])]
noncomputable def P_ssin : List Str := ["a"]
noncomputable def Q_ssin : List Nat := [450]
noncomputable def B_ssin : List S := [.ret (.idx (.call 274576898383999974 [(.var 450)]) (.int 0))]
noncomputable def P_scos : List Str := ["a"]
noncomputable def Q_scos : List Nat := [450]
noncomputable def B_scos : List S := [.ret (.idx (.call 274576898383999974 [(.var 450)]) (.int 1))]
noncomputable def P_satan : List Str := ["a"]
noncomputable def Q_satan : List Nat := [450]
noncomputable def B_satan : List S := [.eval (.call 4405574047172572407260 [(.var 450), (.glob 45220)]), .ite (.cmp .Eq (.bi .len [(.var 450)]) (.int 0)) [.ret (.lst [])] [], .newC 15798374167014 (.call 993717734 [(.var 450), (.var 450)]), .seti 15798374167014 (.int 0) (.call 959603172 [(.idx (.var 15798374167014) (.int 0)), (.glob 45476)]), .ret (.call 4241131976874675104230 [(.call 993717734 [(.call 2022471053272294 [(.var 450)]), (.call 258850518107384294 [(.var 15798374167014)])])])]
noncomputable def P_spower : List Str := ["a", "number"]
noncomputable def Q_spower : List Nat := [450, 16684751975900]
noncomputable def B_spower : List S := [.eval (.call 4405574047172572407260 [(.var 450), (.glob 45476)]), .newL 122871803852, .fo 62658 (.rng [(.bi .len [(.var 450)])]) [.assign 127112212456 (.glob 45220), .fo 1027076326 (.rng [(.int 1), (.bin .Add (.var 62658) (.int 1))]) [.assign 130886855144 (.call 951776228 [(.call 993717732 [(.var 16684751975900), (.tup [(.var 1027076326), (.int 1)])]), (.tup [(.bin .Sub (.var 62658) (.var 1027076326)), (.int 1)])]), .assign 127112212456 (.call 959603172 [(.var 127112212456), (.call 993717732 [(.call 993717732 [(.var 130886855144), (.idx (.var 450) (.var 1027076326))]), (.idx (.var 122871803852) (.bin .Sub (.var 62658) (.var 1027076326)))])])], .app 122871803852 (.ite (.cmp .Eq (.var 62658) (.int 0)) (.glob 45476) (.call 8021464 [(.call 1035265252 [(.var 127112212456), (.tup [(.var 62658), (.int 1)])])]))], .ret (.var 122871803852)]
noncomputable def P_swhole_power : List Str := ["a", "many"]
noncomputable def Q_swhole_power : List Nat := [450, 1048011226]
noncomputable def B_swhole_power : List S := [.assign 964288964 (.ite (.cmp .Lt (.var 1048011226) (.int 0)) (.call 258850518107384294 [(.var 450)]) (.var 450)), .mass [122871803852, 1026778584] (.tup [(.call 8025542 [(.lst [(.glob 45476)]), (.bi .len [(.var 450)])]), (.bi .abs [(.var 1048011226)])]), .whl (.cmp .Gt (.var 1026778584) (.int 0)) [.ite (.cmp .Eq (.bin .Mod (.var 1026778584) (.int 2)) (.int 1)) [.assign 122871803852 (.call 993717734 [(.var 122871803852), (.var 964288964)])] [], .assign 1026778584 (.bin .FloorDiv (.var 1026778584) (.int 2)), .assign 964288964 (.ite (.cmp .Gt (.var 1026778584) (.int 0)) (.call 993717734 [(.var 964288964), (.var 964288964)]) (.var 964288964))], .ret (.var 122871803852)]
noncomputable def P_lplain : List Str := ["number", "many"]
noncomputable def Q_lplain : List Nat := [16684751975900, 1048011226]
noncomputable def B_lplain : List S := [.ret (.tup [(.int 0), (.bin .Add (.lst [(.var 16684751975900)]) (.bin .Mult (.lst [(.glob 45220)]) (.bin .Sub (.var 1048011226) (.int 1))))])]
noncomputable def P_ladd : List Str := ["a", "b"]
noncomputable def Q_ladd : List Nat := [450, 452]
noncomputable def B_ladd : List S := [.assign 8122328 (.bi .min [(.idx (.var 450) (.int 0)), (.idx (.var 452) (.int 0))]), .assign 1048011226 (.bin .Sub (.bi .min [(.bin .Add (.idx (.var 450) (.int 0)) (.bi .len [(.idx (.var 450) (.int 1))])), (.bin .Add (.idx (.var 452) (.int 0)) (.bi .len [(.idx (.var 452) (.int 1))]))]) (.var 8122328)), .mass [7532254, 130349823198] (.comp (.upto (.bin .Add (.bin .Mult (.lst [(.glob 45220)]) (.bi .min [(.bin .Sub (.idx (.var 1027170784) (.int 0)) (.var 8122328)), (.var 1048011226)])) (.idx (.var 1027170784) (.int 1))) (.var 1048011226)) 1027170784 (.tup [(.var 450), (.var 452)])), .ret (.tup [(.var 8122328), (.call 959603174 [(.var 7532254), (.var 130349823198)])])]
noncomputable def P_lmul : List Str := ["a", "b"]
noncomputable def Q_lmul : List Nat := [450, 452]
noncomputable def B_lmul : List S := [.ret (.tup [(.bin .Add (.idx (.var 450) (.int 0)) (.idx (.var 452) (.int 0))), (.call 993717734 [(.idx (.var 450) (.int 1)), (.idx (.var 452) (.int 1))])])]
noncomputable def P_ltrim : List Str := ["a"]
noncomputable def Q_ltrim : List Nat := [450]
noncomputable def B_ltrim : List S := [.mass [8122328, 1027204580] (.var 450), .whl (.band [(.cmp .Gt (.bi .len [(.var 1027204580)]) (.int 0)), (.cmp .Eq (.idx (.var 1027204580) (.int 0)) (.glob 45220))]) [.mass [8122328, 1027204580] (.tup [(.bin .Add (.var 8122328) (.int 1)), (.from_ (.var 1027204580) (.int 1))])], .ret (.tup [(.var 8122328), (.var 1027204580)])]
noncomputable def P_linverse : List Str := ["a"]
noncomputable def Q_linverse : List Nat := [450]
noncomputable def B_linverse : List S := [.mass [8122328, 1027204580] (.call 127682573528 [(.var 450)]), .ite (.cmp .Eq (.bi .len [(.var 1027204580)]) (.int 0)) [.rai (.str "limit") (.str "nothing is known of a series but noughts")] [], .ret (.tup [(.bin .Sub (.int 0) (.var 8122328)), (.call 258850518107384294 [(.var 1027204580)])])]
noncomputable def P_lpower : List Str := ["a", "many"]
noncomputable def Q_lpower : List Nat := [450, 1048011226]
noncomputable def B_lpower : List S := [.ite (.cmp .Eq (.var 1048011226) (.int 0)) [.ret (.tup [(.int 0), (.bin .Add (.lst [(.glob 45476)]) (.bin .Mult (.lst [(.glob 45220)]) (.bin .Sub (.bi .len [(.idx (.var 450) (.int 1))]) (.int 1))))])] [], .ite (.cmp .Lt (.var 1048011226) (.int 0)) [.ret (.call 16684840120536 [(.call 258850518107384280 [(.var 450)]), (.bin .Sub (.int 0) (.var 1048011226))])] [], .mass [8122328, 1027204580] (.call 127682573528 [(.var 450)]), .assign 131482610124 (.ite (.cmp .Gt (.bi .len [(.var 1027204580)]) (.int 0)) (.call 16684840120548 [(.idx (.var 1027204580) (.int 0)), (.var 1048011226)]) (.glob 45476)), .ite (.bor [(.cmp .LtE (.var 1048011226) (.glob 59401808901696832125128602)), (.cmp .Eq (.bi .len [(.var 1027204580)]) (.int 0))]) [.ret (.tup [(.bin .Mult (.var 8122328) (.var 1048011226)), (.call 73380702880344047531358182 [(.var 1027204580), (.var 1048011226)])])] [], .ret (.tup [(.bin .Mult (.var 8122328) (.var 1048011226)), (.call 15795152352230 [(.var 131482610124), (.call 16684840120550 [(.call 15795152352230 [(.call 1035265252 [(.glob 45476), (.idx (.var 1027204580) (.int 0))]), (.var 1027204580)]), (.tup [(.var 1048011226), (.int 1)])])])])]
noncomputable def P_exact_root : List Str := ["number", "many"]
noncomputable def Q_exact_root : List Nat := [16684751975900, 1048011226]
noncomputable def B_exact_root : List S := [.mass [7892968, 16346599026628] (.tup [(.call 2030780749967332 [(.idx (.var 16684751975900) (.int 0)), (.var 1048011226)]), (.call 2030780749967332 [(.idx (.var 16684751975900) (.int 1)), (.var 1048011226)])]), .ret (.ite (.band [(.cmp .Eq (.bin .Pow (.var 7892968) (.var 1048011226)) (.idx (.var 16684751975900) (.int 0))), (.cmp .Eq (.bin .Pow (.var 16346599026628) (.var 1048011226)) (.idx (.var 16684751975900) (.int 1)))]) (.tup [(.var 7892968), (.var 16346599026628)]) .none)]
noncomputable def P_from_zero : List Str := ["told", "many"]
noncomputable def Q_from_zero : List Nat := [959868904, 1048011226]
noncomputable def B_from_zero : List S := [.mass [8122328, 1027204580] (.call 127682573528 [(.var 959868904)]), .ite (.band [(.cmp .Eq (.bi .len [(.var 1027204580)]) (.int 0)), (.cmp .LtE (.var 8122328) (.int 0))]) [.rai (.str "limit") (.str "too few powers are known")] [], .ite (.cmp .Lt (.var 8122328) (.int 0)) [.rai (.str "domain") (.str "a function of what has no end")] [], .ret (.ite (.cmp .Gt (.var 8122328) (.var 1048011226)) (.bin .Mult (.lst [(.glob 45220)]) (.var 1048011226)) (.bin .Add (.bin .Mult (.lst [(.glob 45220)]) (.var 8122328)) (.var 1027204580)))]
noncomputable def P_of_call : List Str := ["name", "told", "many"]
noncomputable def Q_of_call : List Nat := [964092380, 959868904, 1048011226]
noncomputable def B_of_call : List S := [.mass [8122328, 1027204580] (.call 127682573528 [(.var 959868904)]), .ite (.band [(.cmp .Gt (.var 8122328) (.var 1048011226)), (.cmp .In (.var 964092380) (.tup [(.str "sin"), (.str "tan"), (.str "atan")]))]) [.ret (.tup [(.var 8122328), (.upto (.var 1027204580) (.bin .Mult (.int 2) (.var 8122328)))])] [], .assign 130350018258 (.call 34572779380144599756 [(.var 959868904), (.var 1048011226)]), .ite (.cmp .Eq (.var 964092380) (.str "exp")) [.ret (.tup [(.int 0), (.call 1010591206 [(.var 130350018258)])])] [], .ite (.cmp .Eq (.var 964092380) (.str "log")) [.ret (.tup [(.int 0), (.call 972549350 [(.var 130350018258)])])] [], .ite (.cmp .Eq (.var 964092380) (.str "sin")) [.ret (.tup [(.int 0), (.call 1001714662 [(.var 130350018258)])])] [], .ite (.cmp .Eq (.var 964092380) (.str "cos")) [.ret (.tup [(.int 0), (.call 1022878694 [(.var 130350018258)])])] [], .ite (.cmp .Eq (.var 964092380) (.str "tan")) [.ret (.call 993717720 [(.tup [(.int 0), (.call 1001714662 [(.var 130350018258)])]), (.call 16684840120536 [(.tup [(.int 0), (.call 1022878694 [(.var 130350018258)])]), (.neg (.int 1))])])] [], .ite (.cmp .Eq (.var 964092380) (.str "atan")) [.ret (.tup [(.int 0), (.call 128185950694 [(.var 130350018258)])])] [], .rai (.str "domain") (.bin .Add (.str "no series of ") (.var 964092380))]
noncomputable def P_of_root : List Str := ["told", "number"]
noncomputable def Q_of_root : List Nat := [959868904, 16684751975900]
noncomputable def B_of_root : List S := [.mass [8122328, 1027204580] (.call 127682573528 [(.var 959868904)]), .ite (.cmp .Eq (.bi .len [(.var 1027204580)]) (.int 0)) [.rai (.str "limit") (.str "too few powers are known")] [], .ite (.bor [(.cmp .NotEq (.bin .Mod (.bin .Mult (.var 8122328) (.idx (.var 16684751975900) (.int 0))) (.idx (.var 16684751975900) (.int 1))) (.int 0)), (.cmp .LtE (.idx (.idx (.var 1027204580) (.int 0)) (.int 0)) (.int 0))]) [.rai (.str "domain") (.str "a root that has no series")] [], .assign 131482610124 (.call 4517128324096860420298 [(.idx (.var 1027204580) (.int 0)), (.idx (.var 16684751975900) (.int 1))]), .ite (.cmp .Is (.var 131482610124) .none) [.rai (.str "domain") (.str "a root that is no ratio")] [], .ite (.cmp .Lt (.idx (.var 16684751975900) (.int 0)) (.int 0)) [.assign 131482610124 (.call 1035265252 [(.glob 45476), (.var 131482610124)])] [], .assign 128219080132 (.call 16684840120548 [(.var 131482610124), (.bi .abs [(.idx (.var 16684751975900) (.int 0))])]), .ret (.tup [(.bin .FloorDiv (.bin .Mult (.var 8122328) (.idx (.var 16684751975900) (.int 0))) (.idx (.var 16684751975900) (.int 1))), (.call 15795152352230 [(.var 128219080132), (.call 16684840120550 [(.call 15795152352230 [(.call 1035265252 [(.glob 45476), (.idx (.var 1027204580) (.int 0))]), (.var 1027204580)]), (.var 16684751975900)])])])]
noncomputable def P_of_power : List Str := ["base", "exponent", "many", "letter"]
noncomputable def Q_of_power : List Nat := [964288964, 275694147694262474, 1048011226, 16684827698648]
noncomputable def B_of_power : List S := [.ite (.cmp .NotEq (.idx (.var 275694147694262474) (.int 0)) (.str "num")) [.rai (.str "domain") (.str "an exponent that is no number")] [], .ite (.band [(.cmp .Eq (.var 964288964) (.tup [(.str "num"), (.int 0), (.int 1)])), (.cmp .NotEq (.idx (.var 275694147694262474) (.int 2)) (.int 1))]) [.rai (.str "domain") (.str "a root that has no series")] [], .assign 959868904 (.call 2092562780251870 [(.var 964288964), (.var 1048011226), (.var 16684827698648)]), .ite (.cmp .Eq (.idx (.var 275694147694262474) (.int 2)) (.int 1)) [.ret (.call 16684840120536 [(.var 959868904), (.idx (.var 275694147694262474) (.int 1))])] [], .ret (.call 2153934633297630 [(.var 959868904), (.tup [(.idx (.var 275694147694262474) (.int 1)), (.idx (.var 275694147694262474) (.int 2))])])]
noncomputable def P_of_sum : List Str := ["some", "many"]
noncomputable def Q_of_sum : List Nat := [964095974, 1048011226]
noncomputable def B_of_sum : List S := [.assign 122871803852 (.ite (.cmp .Gt (.bi .len [(.var 964095974)]) (.int 0)) (.idx (.var 964095974) (.int 0)) (.call 16412017324248 [(.glob 45220), (.var 1048011226)])), .fo 959868904 (.from_ (.var 964095974) (.int 1)) [.assign 122871803852 (.call 959603160 [(.var 122871803852), (.var 959868904)])], .ret (.var 122871803852)]
noncomputable def P_of_term : List Str := ["t", "many", "letter"]
noncomputable def Q_of_term : List Nat := [488, 1048011226, 16684827698648]
noncomputable def B_of_term : List S := [.ite (.cmp .Eq (.idx (.var 488) (.int 0)) (.str "num")) [.ret (.call 16412017324248 [(.tup [(.idx (.var 488) (.int 1)), (.idx (.var 488) (.int 2))]), (.var 1048011226)])] [], .ite (.cmp .Eq (.idx (.var 488) (.int 0)) (.str "sym")) [.ite (.cmp .NotEq (.idx (.var 488) (.int 1)) (.idx (.var 16684827698648) (.int 0))) [.rai (.str "domain") (.bin .Add (.str "another letter: ") (.idx (.var 488) (.int 1)))] [], .ret (.tup [(.idx (.idx (.var 16684827698648) (.int 1)) (.int 0)), (.bin .Add (.idx (.idx (.var 16684827698648) (.int 1)) (.int 1)) (.bin .Mult (.lst [(.glob 45220)]) (.bin .Sub (.var 1048011226) (.bi .len [(.idx (.idx (.var 16684827698648) (.int 1)) (.int 1))]))))])] [], .ite (.cmp .Eq (.idx (.var 488) (.int 0)) (.str "pow")) [.ret (.call 273364420534462174 [(.idx (.var 488) (.int 1)), (.idx (.var 488) (.int 2)), (.var 1048011226), (.var 16684827698648)])] [], .ite (.band [(.cmp .Eq (.idx (.var 488) (.int 0)) (.str "call")), (.cmp .Eq (.idx (.var 488) (.int 1)) (.str "sqrt")), (.cmp .Eq (.bi .len [(.idx (.var 488) (.int 2))]) (.int 1))]) [.ret (.call 273364420534462174 [(.idx (.idx (.var 488) (.int 2)) (.int 0)), (.tup [(.str "num"), (.int 1), (.int 2)]), (.var 1048011226), (.var 16684827698648)])] [], .ite (.band [(.cmp .Eq (.idx (.var 488) (.int 0)) (.str "call")), (.cmp .Eq (.bi .len [(.idx (.var 488) (.int 2))]) (.int 1))]) [.ret (.call 2083352151582430 [(.idx (.var 488) (.int 1)), (.call 2092562780251870 [(.idx (.idx (.var 488) (.int 2)) (.int 0)), (.var 1048011226), (.var 16684827698648)]), (.var 1048011226)])] [], .ite (.cmp .NotIn (.idx (.var 488) (.int 0)) (.tup [(.str "sum"), (.str "prod")])) [.rai (.str "domain") (.bin .Add (.str "no series of ") (.idx (.var 488) (.int 0)))] [], .assign 964095974 (.comp (.call 2092562780251870 [(.var 7532254), (.var 1048011226), (.var 16684827698648)]) 7532254 (.idx (.var 488) (.int 1))), .ite (.cmp .Eq (.idx (.var 488) (.int 0)) (.str "sum")) [.ret (.call 16349815367390 [(.var 964095974), (.var 1048011226)])] [], .assign 122871803852 (.call 16412017324248 [(.glob 45476), (.var 1048011226)]), .fo 959868904 (.var 964095974) [.assign 122871803852 (.call 993717720 [(.var 122871803852), (.var 959868904)])], .ret (.var 122871803852)]
noncomputable def P_from_begin : List Str := ["told", "side"]
noncomputable def Q_from_begin : List Nat := [959868904, 963799526]
noncomputable def B_from_begin : List S := [.mass [8122328, 1027204580] (.call 127682573528 [(.var 959868904)]), .ite (.bor [(.cmp .Eq (.bi .len [(.var 1027204580)]) (.int 0)), (.cmp .Gt (.var 8122328) (.int 0))]) [.ret (.glob 45220)] [], .ite (.cmp .Eq (.var 8122328) (.int 0)) [.ret (.idx (.var 1027204580) (.int 0))] [], .assign 15722196497362 (.cmp .Eq (.bin .Mod (.var 8122328) (.int 2)) (.int 1)), .ite (.band [(.var 15722196497362), (.cmp .Eq (.var 963799526) (.int 0))]) [.ret .none] [], .assign 129342895058 (.cmp .NotEq (.cmp .Gt (.idx (.idx (.var 1027204580) (.int 0)) (.int 0)) (.int 0)) (.band [(.var 15722196497362), (.cmp .Lt (.var 963799526) (.int 0))])), .ret (.ite (.var 129342895058) (.glob 6898060) (.glob 7065496))]
noncomputable def P_begun_series : List Str := ["t", "letter"]
noncomputable def Q_begun_series : List Nat := [488, 16684827698648]
noncomputable def B_begun_series : List S := [.fo 1048011226 (.glob 113571582632) [.try_ [.assign 122871803852 (.call 127682573528 [(.call 2092562780251870 [(.var 488), (.var 1048011226), (.var 16684827698648)])]), .ite (.bor [(.cmp .Gt (.bi .len [(.idx (.var 122871803852) (.int 1))]) (.int 0)), (.cmp .Gt (.idx (.var 122871803852) (.int 0)) (.int 0))]) [.ret (.var 122871803852)] []] 458 (.unless "limit")], .rai (.str "limit") (.str "too few powers are known")]
noncomputable def P_limit_near : List Str := ["t", "name", "at", "side"]
noncomputable def Q_limit_near : List Nat := [488, 964092380, 62658, 963799526]
noncomputable def B_limit_near : List S := [.ite (.cmp .NotEq (.var 963799526) (.int 0)) [.assign 8184302 (.ite (.cmp .Gt (.var 963799526) (.int 0)) (.glob 45476) (.tup [(.neg (.int 1)), (.int 1)])), .ret (.call 4405574047172610486988 [(.call 73682676500966848786064836 [(.var 488), (.tup [(.var 964092380), (.tup [(.int 0), (.lst [(.var 62658), (.var 8184302)])])])]), (.int 1)])] [], .mass [123442029250, 133076248004] (.tup [(.call 4478205929132964375000 [(.var 488), (.var 964092380), (.var 62658), (.int 1)]), (.call 4478205929132964375000 [(.var 488), (.var 964092380), (.var 62658), (.neg (.int 1))])]), .ret (.ite (.cmp .Eq (.var 123442029250) (.var 133076248004)) (.var 123442029250) .none)]
noncomputable def P_limit : List Str := ["t", "name", "at", "side"]
noncomputable def Q_limit : List Nat := [488, 964092380, 62658, 963799526]
noncomputable def B_limit : List S := [.ite (.bor [(.cmp .Eq (.var 62658) (.glob 6898060)), (.cmp .Eq (.var 62658) (.glob 7065496))]) [.ret (.call 34985991597880437208 [(.var 488), (.var 964092380), (.cmp .Eq (.var 62658) (.glob 6898060))])] [], .ret (.call 4478205929132964375000 [(.var 488), (.var 964092380), (.var 62658), (.var 963799526)])]
noncomputable def P_law_take : List Str := ["box", "many"]
noncomputable def Q_law_take : List Nat := [8155076, 1048011226]
noncomputable def B_law_take : List S := [.seti 8155076 (.int 1) (.bin .Add (.idx (.var 8155076) (.int 1)) (.int 1)), .ite (.cmp .LtE (.idx (.var 8155076) (.int 1)) (.bi .len [(.idx (.var 8155076) (.int 0))])) [.ret (.bin .Mod (.bi .abs [(.idx (.idx (.var 8155076) (.int 0)) (.bin .Sub (.idx (.var 8155076) (.int 1)) (.int 1)))]) (.var 1048011226))] [], .ret (.bin .Mod (.bin .Add (.bin .Mult (.int 5) (.idx (.var 8155076) (.int 1))) (.bin .FloorDiv (.idx (.var 8155076) (.int 1)) (.int 3))) (.var 1048011226))]
noncomputable def P_law_power : List Str := ["base", "many"]
noncomputable def Q_law_power : List Nat := [964288964, 1048011226]
noncomputable def B_law_power : List S := [.ret (.tup [(.str "pow"), (.var 964288964), (.tup [(.str "num"), (.var 1048011226), (.int 1)])])]
noncomputable def P_law_part : List Str := ["number", "many"]
noncomputable def Q_law_part : List Nat := [16684751975900, 1048011226]
noncomputable def B_law_part : List S := [.ret (.tup [(.str "prod"), (.tup [(.tup [(.str "num"), (.var 16684751975900), (.int 1)]), (.call 4478802666036699131070 [(.glob 17093935295678), (.var 1048011226)])])])]
noncomputable def P_law_told : List Str := ["term", "side"]
noncomputable def Q_law_told : List Nat := [997811688, 963799526]
noncomputable def B_law_told : List S := [.try_ [.ret (.call 131440503256 [(.var 997811688), (.str "x"), (.tup [(.int 0), (.int 1)]), (.var 963799526)])] 124482220782 .kind]
noncomputable def P_law_due : List Str := ["first", "gap", "side"]
noncomputable def Q_law_due : List Nat := [131482610124, 7889358, 963799526]
noncomputable def B_law_due : List S := [.ite (.cmp .Gt (.var 7889358) (.int 0)) [.ret (.tup [(.int 0), (.int 1)])] [], .assign 61674 (.cmp .Eq (.cmp .Gt (.idx (.var 131482610124) (.int 0)) (.int 0)) (.bor [(.cmp .Gt (.var 963799526) (.int 0)), (.cmp .Eq (.bin .Mod (.var 7889358) (.int 2)) (.int 0))])), .ite (.cmp .Lt (.var 7889358) (.int 0)) [.ret (.ite (.var 61674) (.str "inf") (.str "-inf"))] [], .ret (.var 131482610124)]
noncomputable def P_law_root_right : List Str := ["box", "name", "far", "side"]
noncomputable def Q_law_root_right : List Nat := [8155076, 964092380, 7954892, 963799526]
noncomputable def B_law_root_right : List S := [.mass [131482610124, 1023010264] (.tup [(.bin .Add (.int 1) (.call 33123710603390676158 [(.var 8155076), (.int 3)])), (.bin .Sub (.call 33123710603390676158 [(.var 8155076), (.int 3)]) (.int 1))]), .assign 1027076068 (.tup [(.str "pow"), (.tup [(.str "call"), (.var 964092380), (.tup [(.call 35293319448998505662 [(.bin .Mult (.var 131482610124) (.var 131482610124)), (.var 7954892)])])]), (.tup [(.str "num"), (.int 1), (.int 2)])]), .assign 133076248004 (.bin .Add (.bin .FloorDiv (.var 7954892) (.int 2)) (.var 1023010264)), .assign 959868904 (.call 32980844460523973822 [(.tup [(.str "prod"), (.tup [(.var 1027076068), (.call 4478802666036699131070 [(.glob 17093935295678), (.bin .Sub (.int 0) (.var 133076248004))])])]), (.var 963799526)]), .assign 15722729797096 (.ite (.bor [(.cmp .Gt (.var 963799526) (.int 0)), (.cmp .Eq (.bin .Mod (.var 133076248004) (.int 2)) (.int 0))]) (.var 131482610124) (.bin .Sub (.int 0) (.var 131482610124))), .ret (.cmp .Eq (.var 959868904) (.ite (.cmp .Eq (.var 1023010264) (.int 0)) (.tup [(.var 15722729797096), (.int 1)]) (.call 258867145003297982 [(.tup [(.var 15722729797096), (.int 1)]), (.bin .Sub (.int 0) (.var 1023010264)), (.int 1)])))]
noncomputable def P_law_pole_right : List Str := ["box", "name", "far", "side"]
noncomputable def Q_law_pole_right : List Nat := [8155076, 964092380, 7954892, 963799526]
noncomputable def B_law_pole_right : List S := [.mass [1048011226, 16684751975900] (.tup [(.bin .Add (.var 7954892) (.call 33123710603390676158 [(.var 8155076), (.int 2)])), (.idx (.lst [(.int 2), (.neg (.int 3))]) (.call 33123710603390676158 [(.var 8155076), (.int 2)]))]), .assign 993419718 (.tup [(.str "call"), (.var 964092380), (.tup [(.call 35293319448998505662 [(.var 16684751975900), (.var 1048011226)])])]), .ite (.cmp .NotEq (.call 32980844460523973822 [(.call 4478802666036699131070 [(.var 993419718), (.neg (.int 1))]), (.var 963799526)]) (.call 258867145003297982 [(.tup [(.var 16684751975900), (.int 1)]), (.bin .Sub (.int 0) (.var 1048011226)), (.var 963799526)])) [.ret (.bool false)] [], .ret (.cmp .Eq (.call 32980844460523973822 [(.tup [(.str "prod"), (.tup [(.var 993419718), (.call 4478802666036699131070 [(.glob 17093935295678), (.bin .Sub (.int 0) (.var 1048011226))])])]), (.var 963799526)]) (.tup [(.var 16684751975900), (.int 1)]))]
noncomputable def P_law_quotient_right : List Str := ["box", "far", "side"]
noncomputable def Q_law_quotient_right : List Nat := [8155076, 7954892, 963799526]
noncomputable def B_law_quotient_right : List S := [.assign 1048011226 (.ite (.cmp .Eq (.call 33123710603390676158 [(.var 8155076), (.int 2)]) (.int 1)) (.bin .Add (.int 3) (.call 33123710603390676158 [(.var 8155076), (.int 20)])) (.var 7954892)), .mass [450, 452, 454] (.tup [(.idx (.lst [(.int 3), (.neg (.int 1)), (.int 5)]) (.call 33123710603390676158 [(.var 8155076), (.int 3)])), (.bin .Sub (.call 33123710603390676158 [(.var 8155076), (.int 5)]) (.int 2)), (.idx (.lst [(.int 1), (.int 2), (.neg (.int 4))]) (.call 33123710603390676158 [(.var 8155076), (.int 3)]))]), .assign 123442029250 (.tup [(.str "sum"), (.tup [(.call 35293319448998505662 [(.var 450), (.var 1048011226)]), (.call 35293319448998505662 [(.var 452), (.bin .Add (.var 1048011226) (.int 1))])])]), .assign 133076248004 (.tup [(.str "sum"), (.tup [(.call 35293319448998505662 [(.var 454), (.var 1048011226)]), (.call 35293319448998505662 [(.neg (.int 1)), (.bin .Add (.var 1048011226) (.int 2))])])]), .assign 7889358 (.bin .Sub (.call 33123710603390676158 [(.var 8155076), (.int 3)]) (.int 1)), .assign 959868904 (.call 32980844460523973822 [(.tup [(.str "prod"), (.tup [(.var 123442029250), (.call 4478802666036699131070 [(.var 133076248004), (.neg (.int 1))]), (.call 4478802666036699131070 [(.glob 17093935295678), (.var 7889358)])])]), (.var 963799526)]), .ret (.cmp .Eq (.var 959868904) (.call 258867145003297982 [(.ite (.cmp .Gt (.var 454) (.int 0)) (.tup [(.var 450), (.var 454)]) (.tup [(.bin .Sub (.int 0) (.var 450)), (.bin .Sub (.int 0) (.var 454))])), (.var 7889358), (.var 963799526)]))]
noncomputable def P_law_beginning_right : List Str := ["box", "name"]
noncomputable def Q_law_beginning_right : List Nat := [8155076, 964092380]
noncomputable def B_law_beginning_right : List S := [.assign 8122328 (.bin .Add (.int 3) (.call 33123710603390676158 [(.var 8155076), (.int 4)])), .assign 8122340 (.bin .Add (.lst [(.tup [(.bin .Add (.int 1) (.call 33123710603390676158 [(.var 8155076), (.int 2)])), (.int 1)])]) (.comp (.tup [(.bin .Sub (.call 33123710603390676158 [(.var 8155076), (.int 5)]) (.int 2)), (.int 1)]) 1002010088 (.rng [(.bin .Sub (.bin .Mult (.int 3) (.var 8122328)) (.int 1))]))), .assign 122871803852 (.call 2092562780251870 [(.tup [(.str "call"), (.var 964092380), (.tup [(.glob 17093935295678)])]), (.bin .Sub (.var 8122328) (.int 1)), (.tup [(.str "x"), (.tup [(.int 0), (.bin .Add (.bin .Mult (.lst [(.tup [(.int 0), (.int 1)])]) (.var 8122328)) (.var 8122340))])])]), .ret (.cmp .Eq (.var 122871803852) (.tup [(.var 8122328), (.upto (.var 8122340) (.bin .Mult (.int 2) (.var 8122328)))]))]
noncomputable def P_law : List Str := ["script"]
noncomputable def Q_law : List Nat := [16828126028774]
noncomputable def B_law : List S := [.assign 8155076 (.lst [(.bi .list [(.upto (.var 16828126028774) (.int 24))]), (.int 0)]), .mass [997814220, 964092380] (.tup [(.call 33123710603390676158 [(.var 8155076), (.int 4)]), (.idx (.lst [(.str "sin"), (.str "tan"), (.str "atan")]) (.call 33123710603390676158 [(.var 8155076), (.int 3)]))]), .mass [7954892, 963799526] (.tup [(.idx (.lst [(.bin .Pow (.int 2) (.int 20)), (.int 20), (.int 48), (.int 32), (.int 100)]) (.call 33123710603390676158 [(.var 8155076), (.int 5)])), (.idx (.lst [(.int 1), (.neg (.int 1))]) (.call 33123710603390676158 [(.var 8155076), (.int 2)]))]), .ite (.cmp .Eq (.var 997814220) (.int 0)) [.ret (.call 155172372908935093410261988601022 [(.var 8155076), (.var 964092380), (.var 7954892), (.var 963799526)])] [], .ite (.cmp .Eq (.var 997814220) (.int 1)) [.ret (.call 155172372908932928304603691281598 [(.var 8155076), (.var 964092380), (.var 7954892), (.var 963799526)])] [], .ite (.cmp .Eq (.var 997814220) (.int 2)) [.ret (.call 41653766680412037947979981562929535315134 [(.var 8155076), (.var 7954892), (.var 963799526)])] [], .ret (.call 5331682135092676485680014975078959894555838 [(.var 8155076), (.var 964092380)])]
end Mine

open PySem PySem.W PySem.Spec PySem.Calls PyProof.Rows
set_option Elab.async false
set_option maxRecDepth 100000
set_option linter.unusedVariables false
namespace Mine

/-- a script's step: run on; or a fact that tells what stands here -/
inductive A where
  | go
  | f {r v : Rz D} (h : r = v)
  | b {u v : Bool} (h : u = v)
  | s {r v : RzS} (h : r = v)
  | m {r v : Rz (List D)} (h : r = v)

noncomputable abbrev KT (α : Type) := Rz α → List A → Prop

section
noncomputable def thn {α β : Type} (K : KT β) (f : α → Nat → List A → Prop) : KT α := fun r o => match r with
  | .ok a k => f a k o
  | .exc kd k => K (.exc kd k) o
  | .stuck => False
noncomputable def ask (r : Rz D) (o : List A) (K : KT D) : Prop := match o with
  | .go :: o => K r o
  | .f (r := r') (v := v) _ :: o => r = r' ∧ K v o
  | _ => False
noncomputable def br (d : D) (o : List A) (T F : List A → Prop) : Prop := match o with
  | .go :: o => (match d with
    | .bool true => T o
    | .bool false => F o
    | _ => False)
  | .b (u := u) (v := v) _ :: o => d = .bool u ∧ cond v (T o) (F o)
  | _ => False
noncomputable def askS (r : RzS) (o : List A) (G : List A → Prop) (K : KT (Fl × Rho)) : Prop := match o with
  | .go :: o => G o
  | .s (r := r') (v := v) _ :: o => r = r' ∧ K v o
  | _ => False
noncomputable def askM (r : Rz (List D)) (o : List A) (G : List A → Prop) (K : KT (List D)) : Prop := match o with
  | .go :: o => G o
  | .m (r := r') (v := v) _ :: o => r = r' ∧ K v o
  | _ => False
noncomputable def look (x : Nat) : Rho → (Option Var → Prop) → Prop
  | [], K => K none
  | p :: r, K => cond (Nat.beq x p.1) (K (some p.2)) (look x r K)
noncomputable def putK (x : Nat) (v : Var) : Rho → (Rho → Prop) → Prop
  | [], K => K [(x, v)]
  | p :: r, K => cond (Nat.beq x p.1) (K ((x, v) :: r)) (putK x v r fun r => K (p :: r))
noncomputable def putAllK : List Nat → List D → Rho → (Rho → Prop) → Prop
  | x :: xs, d :: ds, ρ, K => putK x (.val d) ρ fun ρ => putAllK xs ds ρ K
  | _, _, ρ, K => K ρ
noncomputable def frzK : Rho → (Rho → Prop) → Prop
  | [], K => K []
  | (x, .val d) :: r, K => frzK r fun r => K ((x, .val d) :: r)
  | (x, .own l) :: r, K => frzK r fun r => K ((x, .val (.list l)) :: r)

noncomputable def wpL (f : Nat → List A → X → KT D → Prop) : List X → Nat → List A → KT (List D) → Prop
  | [], k, o, K => K (.ok [] k) o
  | e :: r, k, o, K => f k o e (thn K fun d k o => wpL f r k o (thn K fun ds k o => K (.ok (d :: ds) k) o))
noncomputable def wpAV (f : Nat → List A → X → KT D → Prop) : List X → Nat → List A → KT D → Prop
  | [], _, _, _ => False
  | [e], k, o, K => f k o e K
  | e :: r, k, o, K => f k o e (thn K fun d k o => br d o (fun o => wpAV f r k o K) fun o => K (.ok (.bool false) k) o)
noncomputable def wpOV (f : Nat → List A → X → KT D → Prop) : List X → Nat → List A → KT D → Prop
  | [], _, _, _ => False
  | [e], k, o, K => f k o e K
  | e :: r, k, o, K => f k o e (thn K fun d k o => br d o (fun o => K (.ok (.bool true) k) o) fun o => wpOV f r k o K)
noncomputable def wpAT (f : Nat → List A → X → KT D → Prop) : List X → Nat → List A → KT D → Prop
  | [], k, o, K => K (.ok (.bool true) k) o
  | e :: r, k, o, K => f k o e (thn K fun d k o => br d o (fun o => wpAT f r k o K) fun o => K (.ok (.bool false) k) o)
noncomputable def wpOT (f : Nat → List A → X → KT D → Prop) : List X → Nat → List A → KT D → Prop
  | [], k, o, K => K (.ok (.bool false) k) o
  | e :: r, k, o, K => f k o e (thn K fun d k o => br d o (fun o => K (.ok (.bool true) k) o) fun o => wpOT f r k o K)
noncomputable def wpM (f : D → Nat → List A → KT D → Prop) : List D → Nat → List A → KT (List D) → Prop
  | [], k, o, K => K (.ok [] k) o
  | d :: r, k, o, K => f d k o (thn K fun y k o => wpM f r k o (thn K fun ys k o => K (.ok (y :: ys) k) o))

noncomputable def thnF {α : Type} (f : α → Nat → List A → Prop) : KT α := fun r o => match r with
  | .ok a k => f a k o
  | _ => False

noncomputable def wp (Φ : PhiT) (Γ : GamT) : Nat → Md → Rho → Nat → List A → X → KT D → Prop
  | 0, _, _, _, _, _, _ => False
  | n + 1, .test, ρ, k, o, e, K => match e with
    | .not a => wp Φ Γ n .test ρ k o a (thn K fun d k o => K (notD d k) o)
    | .band l => wpAT (fun k o e K => wp Φ Γ n .test ρ k o e K) l k o K
    | .bor l => wpOT (fun k o e K => wp Φ Γ n .test ρ k o e K) l k o K
    | .ite c a b => wp Φ Γ n .test ρ k o c (thn K fun d k o => br d o (fun o => wp Φ Γ n .test ρ k o a K) fun o => wp Φ Γ n .test ρ k o b K)
    | e => wp Φ Γ n .val ρ k o e (thn K fun d k o => K (truD d k) o)
  | n + 1, .iter, ρ, k, o, e, K => match e with
    | .rng l => wpL (fun k o e K => wp Φ Γ n .val ρ k o e K) l k o (thn K fun ds k o => ask (rngD ds k) o K)
    | e => wp Φ Γ n .val ρ k o e (thn K fun d k o => ask (itemsD d k) o K)
  | n + 1, .val, ρ, k, o, e, K => match e with
    | .int i => K (.ok (.int i) k) o
    | .str x => K (.ok (.str x) k) o
    | .none => K (.ok .none k) o
    | .bool b => K (.ok (.bool b) k) o
    | .var x => look x ρ fun v => match v with
      | some (.val d) => K (.ok d k) o
      | _ => False
    | .glob x => ask (getG Γ x k) o K
    | .bin p a b => wp Φ Γ n .val ρ k o a (thn K fun x k o => wp Φ Γ n .val ρ k o b (thn K fun y k o => ask (binD p x y k) o K))
    | .neg a => wp Φ Γ n .val ρ k o a (thn K fun x k o => K (negD x k) o)
    | .cmp c a b => wp Φ Γ n .val ρ k o a (thn K fun x k o => wp Φ Γ n .val ρ k o b (thn K fun y k o => ask (cmpD c x y k) o K))
    | .band l => wpAV (fun k o e K => wp Φ Γ n .val ρ k o e K) l k o K
    | .bor l => wpOV (fun k o e K => wp Φ Γ n .val ρ k o e K) l k o K
    | .not _ => False
    | .ite c a b => wp Φ Γ n .test ρ k o c (thn K fun d k o => br d o (fun o => wp Φ Γ n .val ρ k o a K) fun o => wp Φ Γ n .val ρ k o b K)
    | .idx a i => (match a with
      | .var x => look x ρ fun v => match v with
        | some (.own l) => wp Φ Γ n .val ρ k o i (thn K fun j k o => ask (idxD (.list l) j k) o K)
        | _ => wp Φ Γ n .val ρ k o a (thn K fun x k o => wp Φ Γ n .val ρ k o i (thn K fun j k o => ask (idxD x j k) o K))
      | a => wp Φ Γ n .val ρ k o a (thn K fun x k o => wp Φ Γ n .val ρ k o i (thn K fun j k o => ask (idxD x j k) o K)))
    | .upto a i => wp Φ Γ n .val ρ k o a (thn K fun x k o => wp Φ Γ n .val ρ k o i (thn K fun j k o => ask (uptoD x j k) o K))
    | .from_ a i => wp Φ Γ n .val ρ k o a (thn K fun x k o => wp Φ Γ n .val ρ k o i (thn K fun j k o => ask (fromD x j k) o K))
    | .bi b l => wpL (fun k o e K => wp Φ Γ n .val ρ k o e K) l k o (thn K fun ds k o => ask (biD b ds k) o K)
    | .rng _ => False
    | .call f l => wpL (fun k o e K => wp Φ Γ n .val ρ k o e K) l k o (thnF fun ds k o => ask (callE (Φ f) (.ok ds k)) o K)
    | .tup l => wpL (fun k o e K => wp Φ Γ n .val ρ k o e K) l k o (thn K fun ds k o => K (litT ds k) o)
    | .lst l => wpL (fun k o e K => wp Φ Γ n .val ρ k o e K) l k o (thn K fun ds k o => K (litL ds k) o)
    | .comp a x it => wp Φ Γ n .iter ρ k o it (thn K fun d k o => match d with
      | .list items => askM (evM (fun d k => ev Φ Γ n .val ((x, .val d) :: ρ) k a) items k) o (fun o => wpM (fun d k o K => wp Φ Γ n .val ((x, .val d) :: ρ) k o a K) items k o (thn K fun ys k o => K (.ok (.list ys) k) o)) (thn K fun ys k o => K (.ok (.list ys) k) o)
      | _ => False)
    | .other => False

noncomputable def wpSL (f : Rho → Nat → List A → S → KT (Fl × Rho) → Prop) : List S → Rho → Nat → List A → KT (Fl × Rho) → Prop
  | [], ρ, k, o, K => K (.ok (.next, ρ) k) o
  | s :: r, ρ, k, o, K => f ρ k o s (thn K fun p k o => match p with
    | (.next, ρ) => wpSL f r ρ k o K
    | (.ret d, ρ) => K (.ok (.ret d, ρ) k) o)
noncomputable def wpF (g : Rho → Nat → RzS) (f : Rho → Nat → List A → KT (Fl × Rho) → Prop) (x : Nat) : List D → Rho → Nat → List A → KT (Fl × Rho) → Prop
  | [], ρ, k, o, K => K (.ok (.next, ρ) k) o
  | d :: r, ρ, k, o, K => putK x (.val d) ρ fun ρ => f ρ k o (thn K fun p k o => match p with
    | (.next, ρ) => askS (exF g x r ρ k) o (fun o => wpF g f x r ρ k o K) K
    | (.ret d, ρ) => K (.ok (.ret d, ρ) k) o)
noncomputable def wpW (u : Rho → Nat → Rz D) (g : Rho → Nat → RzS) (t : Rho → Nat → List A → KT D → Prop) (f : Rho → Nat → List A → KT (Fl × Rho) → Prop) : Nat → Rho → Nat → List A → KT (Fl × Rho) → Prop
  | 0, _, _, _, _ => False
  | n + 1, ρ, k, o, K => t ρ k o (thn K fun d k o => br d o (fun o => f ρ k o (thn K fun p k o => match p with
    | (.next, ρ) => askS (exW u g n ρ k) o (fun o => wpW u g t f n ρ k o K) K
    | (.ret d, ρ) => K (.ok (.ret d, ρ) k) o)) fun o => K (.ok (.next, ρ) k) o)

noncomputable def wpS (Φ : PhiT) (Γ : GamT) : Nat → Rho → Nat → List A → S → KT (Fl × Rho) → Prop
  | 0, _, _, _, _, _ => False
  | n + 1, ρ, k, o, s, K => match s with
    | .ret e => frzK ρ fun ρ' => wp Φ Γ n .val ρ' k o e (thn K fun d k o => K (.ok (.ret d, ρ) k) o)
    | .newL x => putK x (.own []) ρ fun ρ => K (.ok (.next, ρ) k) o
    | .assign x e => wp Φ Γ n .val ρ k o e (thn K fun d k o => putK x (.val d) ρ fun ρ => K (.ok (.next, ρ) k) o)
    | .mass xs e => wp Φ Γ n .val ρ k o e (thn K fun d k o => match d with
      | .tuple ds => cond (Nat.beq ds.length xs.length) (putAllK xs ds ρ fun ρ => K (.ok (.next, ρ) k) o) False
      | .list ds => cond (Nat.beq ds.length xs.length) (putAllK xs ds ρ fun ρ => K (.ok (.next, ρ) k) o) False
      | _ => False)
    | .app x e => look x ρ fun v => match v with
      | some (.own l) => br (.bool (decide (l.length ≤ 1000000))) o (fun o => wp Φ Γ n .val ρ k o e (thn K fun d k o => putK x (.own (l ++ [d])) ρ fun ρ => K (.ok (.next, ρ) k) o)) fun _ => False
      | _ => False
    | .ite c a b => wp Φ Γ n .test ρ k o c (thn K fun d k o => br d o (fun o => wpSL (fun ρ k o s K => wpS Φ Γ n ρ k o s K) a ρ k o K) fun o => wpSL (fun ρ k o s K => wpS Φ Γ n ρ k o s K) b ρ k o K)
    | .whl c b => askS (exW (fun ρ k => ev Φ Γ n .test ρ k c) (fun ρ k => exL (fun ρ k s => ex Φ Γ n ρ k s) b ρ k) n ρ k) o (fun o => wpW (fun ρ k => ev Φ Γ n .test ρ k c) (fun ρ k => exL (fun ρ k s => ex Φ Γ n ρ k s) b ρ k) (fun ρ k o K => wp Φ Γ n .test ρ k o c K) (fun ρ k o K => wpSL (fun ρ k o s K => wpS Φ Γ n ρ k o s K) b ρ k o K) n ρ k o K) K
    | .fo x it b => wp Φ Γ n .iter ρ k o it (thn K fun d k o => match d with
      | .list items => askS (exF (fun ρ k => exL (fun ρ k s => ex Φ Γ n ρ k s) b ρ k) x items ρ k) o (fun o => wpF (fun ρ k => exL (fun ρ k s => ex Φ Γ n ρ k s) b ρ k) (fun ρ k o K => wpSL (fun ρ k o s K => wpS Φ Γ n ρ k o s K) b ρ k o K) x items ρ k o K) K
      | _ => False)
    | .try_ b x h => wpSL (fun ρ k o s K => wpS Φ Γ n ρ k o s K) b ρ k o (thnF fun p k o => K (.ok p k) o)
    | .eval e => wp Φ Γ n .val ρ k o e (thn K fun d k o => match d with
      | .none => K (.ok (.next, ρ) k) o
      | _ => False)
    | _ => False

noncomputable def Rs (Z : Prop) : List A → Prop
  | [] => Z
  | .go :: o => Rs Z o
  | .f (r := r) _ :: o => r = r ∧ Rs Z o
  | .b (u := u) _ :: o => PyData.bool u = .bool u ∧ Rs Z o
  | .s (r := r) _ :: o => r = r ∧ Rs Z o
  | .m (r := r) _ :: o => r = r ∧ Rs Z o
theorem Rs.of {Z : Prop} (z : Z) : ∀ o, Rs Z o
  | [] => z
  | .go :: o => Rs.of z o
  | .f _ :: o => ⟨rfl, Rs.of z o⟩
  | .b _ :: o => ⟨rfl, Rs.of z o⟩
  | .s _ :: o => ⟨rfl, Rs.of z o⟩
  | .m _ :: o => ⟨rfl, Rs.of z o⟩

noncomputable def wpRun (Φ : PhiT) (Γ : GamT) (n : Nat) (ps : List Nat) (B : List S) (k : Nat) (ds : List D) (o : List A) (r : Rz D) : Prop :=
  cond (Nat.beq ds.length ps.length) (putAllK ps ds [] fun ρ => wpSL (fun ρ k o s K => wpS Φ Γ n ρ k o s K) B ρ k o fun q _ => retR q = r) False
noncomputable def wpLoop (Φ : PhiT) (Γ : GamT) (n : Nat) (c : X) (b : List S) (m : Nat) (ρ : Rho) (k : Nat) (o : List A) (r : RzS) : Prop :=
  wpW (fun ρ k => ev Φ Γ n .test ρ k c) (fun ρ k => exL (fun ρ k s => ex Φ Γ n ρ k s) b ρ k) (fun ρ k o K => wp Φ Γ n .test ρ k o c K) (fun ρ k o K => wpSL (fun ρ k o s K => wpS Φ Γ n ρ k o s K) b ρ k o K) m ρ k o fun q _ => q = r
noncomputable def wpFor (Φ : PhiT) (Γ : GamT) (n : Nat) (b : List S) (x : Nat) (items : List D) (ρ : Rho) (k : Nat) (o : List A) (r : RzS) : Prop :=
  wpF (fun ρ k => exL (fun ρ k s => ex Φ Γ n ρ k s) b ρ k) (fun ρ k o K => wpSL (fun ρ k o s K => wpS Φ Γ n ρ k o s K) b ρ k o K) x items ρ k o fun q _ => q = r
noncomputable def wpRet (Φ : PhiT) (Γ : GamT) (n : Nat) (ρ : Rho) (B : List S) (k : Nat) (o : List A) (r : Rz D) : Prop :=
  wpSL (fun ρ k o s K => wpS Φ Γ n ρ k o s K) B ρ k o fun q _ => retR q = r
noncomputable def wpOne (Φ : PhiT) (Γ : GamT) (n : Nat) (ρ : Rho) (k : Nat) (s : S) (o : List A) (r : RzS) : Prop :=
  wpS Φ Γ n ρ k o s fun q _ => q = r
noncomputable def wpEv (Φ : PhiT) (Γ : GamT) (n : Nat) (md : Md) (ρ : Rho) (k : Nat) (e : X) (o : List A) (r : Rz D) : Prop :=
  wp Φ Γ n md ρ k o e fun q _ => q = r
noncomputable def wpGo (Φ : PhiT) (Γ : GamT) (n : Nat) (ρ : Rho) (B : List S) (k : Nat) (o : List A) (r : RzS) : Prop :=
  wpSL (fun ρ k o s K => wpS Φ Γ n ρ k o s K) B ρ k o fun q _ => q = r
end

/-! it is sound -/
theorem thn_ok {α β : Type} {r : Rz α} {f : α → Nat → List A → Prop} {g : α → Nat → Rz β} {K : KT β} (h : ∃ o, thn K f r o) (hf : ∀ a k o, f a k o → ∃ o, K (g a k) o) : ∃ o, K (r.bind g) o := by
  obtain ⟨o, h⟩ := h
  cases r with
  | ok a k => exact hf a k o h
  | exc kd k => exact ⟨o, h⟩
  | stuck => exact h.elim
theorem ask_ok {r : Rz D} {o : List A} {K : KT D} (h : ask r o K) : ∃ o, K r o := by
  unfold ask at h
  split at h
  · exact ⟨_, h⟩
  · rename_i e _
    obtain ⟨rfl, h⟩ := h
    subst e
    exact ⟨_, h⟩
  · exact h.elim
theorem askS_ok {r : RzS} {o : List A} {G : List A → Prop} {K : KT (Fl × Rho)} (h : askS r o G K) (hg : ∀ o, G o → ∃ o, K r o) : ∃ o, K r o := by
  unfold askS at h
  split at h
  · exact hg _ h
  · rename_i e _
    obtain ⟨rfl, h⟩ := h
    subst e
    exact ⟨_, h⟩
  · exact h.elim
theorem askM_ok {r : Rz (List D)} {o : List A} {G : List A → Prop} {K : KT (List D)} (h : askM r o G K) (hg : ∀ o, G o → ∃ o, K r o) : ∃ o, K r o := by
  unfold askM at h
  split at h
  · exact hg _ h
  · rename_i e _
    obtain ⟨rfl, h⟩ := h
    subst e
    exact ⟨_, h⟩
  · exact h.elim
theorem br_cap {c : Prop} [Decidable c] {o : List A} {T : List A → Prop} (h : br (.bool (decide c)) o T fun _ => False) : c ∧ ∃ o, T o := by
  unfold br at h
  split at h
  · split at h
    · rename_i e
      exact ⟨of_decide_eq_true (by injection e), _, h⟩
    · exact h.elim
    · exact h.elim
  · rename_i u v e _
    obtain ⟨e', h⟩ := h
    subst e
    cases u with
    | true => exact ⟨of_decide_eq_true (by injection e'), _, h⟩
    | false => exact h.elim
  · exact h.elim
theorem br_ok {β : Type} {d : D} {o : List A} {T F : List A → Prop} {x y z : Rz β} {K : KT β} (h : br d o T F) (ht : ∀ o, T o → ∃ o, K x o) (hf : ∀ o, F o → ∃ o, K y o) :
    ∃ o, K (match d with | .bool true => x | .bool false => y | _ => z) o := by
  unfold br at h
  split at h
  · split at h
    · exact ht _ h
    · exact hf _ h
    · exact h.elim
  · rename_i u v e _
    obtain ⟨rfl, h⟩ := h
    subst e
    cases u with
    | true => exact ht _ h
    | false => exact hf _ h
  · exact h.elim
theorem br_okn {β : Type} {d : D} {o : List A} {T F : List A → Prop} {x y z : Rz β} {K : KT β} (h : br d o T F) (ht : ∀ o, T o → ∃ o, K x o) (hf : ∀ o, F o → ∃ o, K y o) :
    ∃ o, K (match d with | .bool false => y | .bool true => x | _ => z) o := by
  obtain ⟨o, h⟩ := br_ok (z := z) h ht hf
  refine ⟨o, ?_⟩
  split at h
  · exact h
  · exact h
  · rename_i a b
    split
    · exact (b rfl).elim
    · exact (a rfl).elim
    · exact h
theorem look_ok {x : Nat} {K : Option Var → Prop} : ∀ {ρ : Rho}, look x ρ K → K (ρ.lookup x)
  | [], h => h
  | p :: r, h => by
    unfold look at h
    rw [List.lookup_cons]
    cases e : Nat.beq x p.1 with
    | true =>
      rw [e] at h
      rw [beq_iff_eq.mpr (Nat.eq_of_beq_eq_true e)]
      exact h
    | false =>
      rw [e] at h
      rw [beq_eq_false_iff_ne.mpr (Nat.ne_of_beq_eq_false e)]
      exact look_ok h
theorem putK_ok {x : Nat} {v : Var} : ∀ {ρ : Rho} {K : Rho → Prop}, putK x v ρ K → K (Rho.put x v ρ)
  | [], _, h => h
  | p :: r, K, h => by
    unfold putK at h
    unfold Rho.put
    cases e : Nat.beq x p.1 with
    | true =>
      rw [e] at h
      rw [if_pos (beq_iff_eq.mpr (Nat.eq_of_beq_eq_true e))]
      exact h
    | false =>
      rw [e] at h
      rw [if_neg (fun q => Nat.ne_of_beq_eq_false e (beq_iff_eq.mp q))]
      exact putK_ok (K := fun r => K (p :: r)) h
theorem putAllK_ok : ∀ {xs : List Nat} {ds : List D} {ρ : Rho} {K : Rho → Prop}, putAllK xs ds ρ K → K (putAll xs ds ρ)
  | [], [], _, _, h => h
  | [], _ :: _, _, _, h => h
  | _ :: _, [], _, _, h => h
  | x :: xs, d :: ds, ρ, K, h => putAllK_ok (xs := xs) (putK_ok (K := fun ρ => putAllK xs ds ρ K) h)
theorem frzK_ok : ∀ {ρ : Rho} {K : Rho → Prop}, frzK ρ K → K (frz ρ)
  | [], _, h => h
  | (x, .val d) :: r, K, h => frzK_ok (K := fun r => K ((x, .val d) :: r)) h
  | (x, .own l) :: r, K, h => frzK_ok (K := fun r => K ((x, .val (.list l)) :: r)) h

section
variable {f : Nat → X → Rz D} {g : Nat → List A → X → KT D → Prop} (hf : ∀ k o e K, g k o e K → ∃ o, K (f k e) o)
include hf
theorem wpL_ok : ∀ l k o K, wpL g l k o K → ∃ o, K (evL f l k) o
  | [], _, o, _, h => ⟨o, h⟩
  | e :: r, k, o, K, h => thn_ok (hf _ _ _ _ h) fun d k o h => thn_ok (wpL_ok r k o _ h) fun ds k o h => ⟨o, h⟩
theorem wpAV_ok : ∀ l k o K, wpAV g l k o K → ∃ o, K (andV f l k) o
  | [], _, _, _, h => h.elim
  | [e], _, _, _, h => hf _ _ _ _ h
  | e :: e' :: r, k, o, K, h => thn_ok (hf _ _ _ _ h) fun d k o h => br_ok h (fun o h => wpAV_ok (e' :: r) k o K h) fun o h => ⟨o, h⟩
theorem wpOV_ok : ∀ l k o K, wpOV g l k o K → ∃ o, K (orV f l k) o
  | [], _, _, _, h => h.elim
  | [e], _, _, _, h => hf _ _ _ _ h
  | e :: e' :: r, k, o, K, h => thn_ok (hf _ _ _ _ h) fun d k o h => br_okn h (fun o h => ⟨o, h⟩) fun o h => wpOV_ok (e' :: r) k o K h
theorem wpAT_ok : ∀ l k o K, wpAT g l k o K → ∃ o, K (andT f l k) o
  | [], _, o, _, h => ⟨o, h⟩
  | e :: r, k, o, K, h => thn_ok (hf _ _ _ _ h) fun d k o h => br_ok h (fun o h => wpAT_ok r k o K h) fun o h => ⟨o, h⟩
theorem wpOT_ok : ∀ l k o K, wpOT g l k o K → ∃ o, K (orT f l k) o
  | [], _, o, _, h => ⟨o, h⟩
  | e :: r, k, o, K, h => thn_ok (hf _ _ _ _ h) fun d k o h => br_okn h (fun o h => ⟨o, h⟩) fun o h => wpOT_ok r k o K h
end
theorem wpM_ok {f : D → Nat → Rz D} {g : D → Nat → List A → KT D → Prop} (hf : ∀ d k o K, g d k o K → ∃ o, K (f d k) o) : ∀ l k o K, wpM g l k o K → ∃ o, K (evM f l k) o
  | [], _, o, _, h => ⟨o, h⟩
  | e :: r, k, o, K, h => thn_ok (hf _ _ _ _ h) fun d k o h => thn_ok (wpM_ok hf r k o _ h) fun ds k o h => ⟨o, h⟩

theorem wp_ok {Φ : PhiT} {Γ : GamT} : ∀ n md ρ k o x K, wp Φ Γ n md ρ k o x K → ∃ o, K (ev Φ Γ n md ρ k x) o := by
  intro n
  induction n with
  | zero => intro md ρ k o x K h; exact h.elim
  | succ n ih =>
    have iv := fun md ρ k o e K => ih md ρ k o e K
    have two : ∀ {ρ k o a b K} {F : D → D → Nat → Rz D}, wp Φ Γ n .val ρ k o a (thn K fun x k o => wp Φ Γ n .val ρ k o b (thn K fun y k o => ask (F x y k) o K)) → ∃ o, K ((ev Φ Γ n .val ρ k a).bind fun x k => (ev Φ Γ n .val ρ k b).bind fun y k => F x y k) o :=
      fun h => thn_ok (ih _ _ _ _ _ _ h) fun x k o h => thn_ok (ih _ _ _ _ _ _ h) fun y k o h => ask_ok h
    intro md ρ k o x K h
    cases md with
    | test =>
      cases x with
      | not a => exact thn_ok (ih _ _ _ _ _ _ h) fun d k o h => ⟨o, h⟩
      | band l => exact wpAT_ok (fun k o e K h => ih _ _ _ _ _ _ h) _ _ _ _ h
      | bor l => exact wpOT_ok (fun k o e K h => ih _ _ _ _ _ _ h) _ _ _ _ h
      | ite c a b => exact thn_ok (ih _ _ _ _ _ _ h) fun d k o h => br_ok h (fun o h => ih _ _ _ _ _ _ h) fun o h => ih _ _ _ _ _ _ h
      | _ => exact thn_ok (ih .val ρ k o _ _ h) fun d k o h => ⟨o, h⟩
    | iter =>
      cases x with
      | rng l => exact thn_ok (wpL_ok (fun k o e K h => ih _ _ _ _ _ _ h) _ _ _ _ h) fun ds k o h => ask_ok h
      | _ => exact thn_ok (ih .val ρ k o _ _ h) fun d k o h => ask_ok h
    | val =>
      cases x with
      | int i => exact ⟨o, h⟩
      | str i => exact ⟨o, h⟩
      | none => exact ⟨o, h⟩
      | bool i => exact ⟨o, h⟩
      | var x =>
        have := look_ok (K := fun v => match v with
          | some (.val d) => K (.ok d k) o
          | _ => False) h
        refine ⟨o, ?_⟩
        show K (match ρ.lookup x with | some (.val d) => .ok d k | _ => .stuck) o
        generalize ρ.lookup x = q at this ⊢
        match q, this with
        | some (.val d), h => exact h
      | glob x => exact ask_ok h
      | bin p a b => exact two h
      | neg a => exact thn_ok (ih _ _ _ _ _ _ h) fun d k o h => ⟨o, h⟩
      | cmp c a b => exact two h
      | band l => exact wpAV_ok (fun k o e K h => ih _ _ _ _ _ _ h) _ _ _ _ h
      | bor l => exact wpOV_ok (fun k o e K h => ih _ _ _ _ _ _ h) _ _ _ _ h
      | not a => exact h.elim
      | ite c a b => exact thn_ok (ih _ _ _ _ _ _ h) fun d k o h => br_ok h (fun o h => ih _ _ _ _ _ _ h) fun o h => ih _ _ _ _ _ _ h
      | idx a i =>
        cases a with
        | var x =>
          have h := look_ok (K := fun v => match v with
            | some (.own l) => wp Φ Γ n .val ρ k o i (thn K fun j k o => ask (idxD (.list l) j k) o K)
            | _ => wp Φ Γ n .val ρ k o (.var x) (thn K fun x k o => wp Φ Γ n .val ρ k o i (thn K fun j k o => ask (idxD x j k) o K))) h
          show ∃ o, K (match ρ.lookup x with
            | some (.own l) => (ev Φ Γ n .val ρ k i).bind fun j k => idxD (.list l) j k
            | _ => (ev Φ Γ n .val ρ k (.var x)).bind fun x k => (ev Φ Γ n .val ρ k i).bind fun j k => idxD x j k) o
          generalize ρ.lookup x = q at h ⊢
          match q, h with
          | some (.own l), h => exact thn_ok (ih _ _ _ _ _ _ h) fun d k o h => ask_ok h
          | some (.val d), h => exact two h
          | none, h => exact two h
        | _ => exact two h
      | upto a i => exact two h
      | from_ a i => exact two h
      | bi b l => exact thn_ok (wpL_ok (fun k o e K h => ih _ _ _ _ _ _ h) _ _ _ _ h) fun ds k o h => ask_ok h
      | rng l => exact h.elim
      | call f l =>
        obtain ⟨o', h⟩ := wpL_ok (fun k o e K h => ih _ _ _ _ _ _ h) _ _ _ _ h
        rw [w_call]
        generalize evL (fun k e => ev Φ Γ n .val ρ k e) l k = r at h ⊢
        cases r with
        | ok ds k => exact ask_ok h
        | exc kd k => exact h.elim
        | stuck => exact h.elim
      | tup l => exact thn_ok (wpL_ok (fun k o e K h => ih _ _ _ _ _ _ h) _ _ _ _ h) fun ds k o h => ⟨o, h⟩
      | lst l => exact thn_ok (wpL_ok (fun k o e K h => ih _ _ _ _ _ _ h) _ _ _ _ h) fun ds k o h => ⟨o, h⟩
      | comp a x it =>
        rw [w_comp]
        refine thn_ok (ih _ _ _ _ _ _ h) fun d k o h => ?_
        cases d with
        | list items =>
          rw [mapD_l]
          exact thn_ok (askM_ok h fun o h => wpM_ok (fun d k o K h => ih _ _ _ _ _ _ h) _ _ _ _ h) fun ys k o h => ⟨o, h⟩
        | _ => exact h.elim
      | other => exact h.elim

section
variable {f : Rho → Nat → S → RzS} {g : Rho → Nat → List A → S → KT (Fl × Rho) → Prop} (hf : ∀ ρ k o e K, g ρ k o e K → ∃ o, K (f ρ k e) o)
include hf
theorem wpSL_ok : ∀ l ρ k o K, wpSL g l ρ k o K → ∃ o, K (exL f l ρ k) o
  | [], _, _, o, _, h => ⟨o, h⟩
  | s :: r, ρ, k, o, K, h => thn_ok (hf _ _ _ _ _ h) fun p k o h => by
    obtain ⟨q, ρ⟩ := p
    cases q with
    | next => exact wpSL_ok r ρ k o K h
    | ret d => exact ⟨o, h⟩
end
section
variable {f : Rho → Nat → RzS} {g : Rho → Nat → List A → KT (Fl × Rho) → Prop} (hf : ∀ ρ k o K, g ρ k o K → ∃ o, K (f ρ k) o)
include hf
theorem wpF_ok {x : Nat} : ∀ l ρ k o K, wpF f g x l ρ k o K → ∃ o, K (exF f x l ρ k) o
  | [], _, _, o, _, h => ⟨o, h⟩
  | s :: r, ρ, k, o, K, h => thn_ok (hf _ _ _ _ (putK_ok (K := fun ρ => g ρ k o _) h)) fun p k o h => by
    obtain ⟨q, ρ⟩ := p
    cases q with
    | next => exact askS_ok h fun o h => wpF_ok r ρ k o K h
    | ret d => exact ⟨o, h⟩
theorem wpW_ok {t : Rho → Nat → Rz D} {u : Rho → Nat → List A → KT D → Prop} (ht : ∀ ρ k o K, u ρ k o K → ∃ o, K (t ρ k) o) : ∀ n ρ k o K, wpW t f u g n ρ k o K → ∃ o, K (exW t f n ρ k) o
  | 0, _, _, _, _, h => h.elim
  | n + 1, ρ, k, o, K, h => thn_ok (ht _ _ _ _ h) fun d k o h => br_ok h (fun o h => thn_ok (hf _ _ _ _ h) fun p k o h => by
      obtain ⟨q, ρ⟩ := p
      cases q with
      | next => exact askS_ok h fun o h => wpW_ok ht n ρ k o K h
      | ret d => exact ⟨o, h⟩) fun o h => ⟨o, h⟩
end
theorem wpS_ok {Φ : PhiT} {Γ : GamT} : ∀ n ρ k o s K, wpS Φ Γ n ρ k o s K → ∃ o, K (ex Φ Γ n ρ k s) o := by
  intro n
  induction n with
  | zero => intro ρ k o s K h; exact h.elim
  | succ n ih =>
    have il := fun l ρ k o K (h : wpSL (fun ρ k o s K => wpS Φ Γ n ρ k o s K) l ρ k o K) => wpSL_ok (fun ρ k o s K h => ih ρ k o s K h) l ρ k o K h
    intro ρ k o s K h
    cases s with
    | ret e => exact thn_ok (wp_ok _ _ _ _ _ _ _ (frzK_ok (K := fun ρ' => wp Φ Γ n .val ρ' k o e (thn K fun d k o => K (.ok (.ret d, ρ) k) o)) h)) fun d k o h => ⟨o, h⟩
    | newL x => exact ⟨o, putK_ok (K := fun ρ => K (.ok (.next, ρ) k) o) h⟩
    | assign x e => exact thn_ok (wp_ok _ _ _ _ _ _ _ h) fun d k o h => ⟨o, putK_ok (K := fun ρ => K (.ok (.next, ρ) k) o) h⟩
    | mass xs e =>
      refine thn_ok (wp_ok _ _ _ _ _ _ _ h) fun d k o h => ?_
      have go : ∀ ds : List D, cond (Nat.beq ds.length xs.length) (putAllK xs ds ρ fun ρ => K (.ok (.next, ρ) k) o) False → ∃ o, K (if ds.length = xs.length then .ok (.next, putAll xs ds ρ) k else .stuck) o := fun ds h => by
        cases e : Nat.beq ds.length xs.length with
        | true =>
          rw [e] at h
          rw [if_pos (Nat.eq_of_beq_eq_true e)]
          exact ⟨o, putAllK_ok (K := fun ρ => K (.ok (.next, ρ) k) o) h⟩
        | false =>
          rw [e] at h
          exact h.elim
      cases d with
      | tuple ds => exact go ds h
      | list ds => exact go ds h
      | _ => exact h.elim
    | seti x i e => exact h.elim
    | app x e =>
      have h := look_ok (K := fun v => match v with
        | some (.own l) => br (.bool (decide (l.length ≤ 1000000))) o (fun o => wp Φ Γ n .val ρ k o e (thn K fun d k o => putK x (.own (l ++ [d])) ρ fun ρ => K (.ok (.next, ρ) k) o)) fun _ => False
        | _ => False) h
      rw [x_app]
      unfold own?
      generalize ρ.lookup x = q at h ⊢
      match q, h with
      | some (.own l), h =>
        obtain ⟨c, o, h⟩ := br_cap h
        show ∃ o, K (appO (some l) x ρ _) o
        rw [appO_some c]
        exact thn_ok (wp_ok _ _ _ _ _ _ _ h) fun d k o h => ⟨o, putK_ok (K := fun ρ => K (.ok (.next, ρ) k) o) h⟩
    | ite c a b => exact thn_ok (wp_ok _ _ _ _ _ _ _ h) fun d k o h => br_ok h (fun o h => il _ _ _ _ _ h) fun o h => il _ _ _ _ _ h
    | whl c b =>
      rw [x_whl]
      exact askS_ok h fun o h => wpW_ok (fun ρ k o K h => il _ _ _ _ _ h) (fun ρ k o K h => wp_ok _ _ _ _ _ _ _ h) _ _ _ _ _ h
    | fo x it b =>
      rw [x_fo]
      refine thn_ok (wp_ok _ _ _ _ _ _ _ h) fun d k o h => ?_
      cases d with
      | list items =>
        exact askS_ok h fun o h => wpF_ok (fun ρ k o K h => il _ _ _ _ _ h) _ _ _ _ _ h
      | _ => exact h.elim
    | rai a b => exact h.elim
    | newL2 => exact h.elim
    | newC => exact h.elim
    | try_ b x hd =>
      rw [x_try]
      obtain ⟨o', h⟩ := il _ _ _ _ _ h
      generalize exL (fun ρ k s => ex Φ Γ n ρ k s) b ρ k = r at h ⊢
      cases r with
      | ok p k => exact ⟨o', h⟩
      | exc kd k => exact h.elim
      | stuck => exact h.elim
    | eval e =>
      rw [x_eval]
      refine thn_ok (wp_ok _ _ _ _ _ _ _ h) fun d k o h => ?_
      cases d with
      | none => exact ⟨o, h⟩
      | _ => exact h.elim
    | other => exact h.elim

theorem of_wp {Φ : PhiT} {Γ : GamT} {n : Nat} {ps : List Nat} {B : List S} {k : Nat} {ds : List D} {r r' : Rz D} (o : List A) (h : r' = r) (e : wpRun Φ Γ n ps B k ds o r = Rs (r' = r) o) : runB Φ Γ n ps B k ds = r := by
  have h := e.mpr (Rs.of h o)
  unfold wpRun at h
  cases q : Nat.beq ds.length ps.length with
  | false =>
    rw [q] at h
    exact h.elim
  | true =>
    rw [q] at h
    rw [run_ (Nat.eq_of_beq_eq_true q)]
    have h := putAllK_ok (K := fun ρ => wpSL (fun ρ k o s K => wpS Φ Γ n ρ k o s K) B ρ k o fun q _ => retR q = r) h
    obtain ⟨_, h⟩ := wpSL_ok (fun ρ k o s K h => wpS_ok n ρ k o s K h) _ _ _ _ _ h
    exact h
theorem go_wp {Φ : PhiT} {Γ : GamT} {n : Nat} {ρ : Rho} {B : List S} {k : Nat} {r r' : RzS} (o : List A) (h : r' = r) (e : wpGo Φ Γ n ρ B k o r = Rs (r' = r) o) : exL (fun ρ k s => ex Φ Γ n ρ k s) B ρ k = r := by
  have h := e.mpr (Rs.of h o)
  obtain ⟨_, h⟩ := wpSL_ok (fun ρ k o s K h => wpS_ok n ρ k o s K h) _ _ _ _ _ h
  exact h
theorem ret_wp {Φ : PhiT} {Γ : GamT} {n : Nat} {ρ : Rho} {B : List S} {k : Nat} {r r' : Rz D} (o : List A) (h : r' = r) (e : wpRet Φ Γ n ρ B k o r = Rs (r' = r) o) : retR (exL (fun ρ k s => ex Φ Γ n ρ k s) B ρ k) = r := by
  have h := e.mpr (Rs.of h o)
  obtain ⟨_, h⟩ := wpSL_ok (fun ρ k o s K h => wpS_ok n ρ k o s K h) _ _ _ _ _ h
  exact h
theorem one_wp {Φ : PhiT} {Γ : GamT} {n : Nat} {ρ : Rho} {s : S} {k : Nat} {r r' : RzS} (o : List A) (h : r' = r) (e : wpOne Φ Γ n ρ k s o r = Rs (r' = r) o) : ex Φ Γ n ρ k s = r := by
  have h := e.mpr (Rs.of h o)
  obtain ⟨_, h⟩ := wpS_ok _ _ _ _ _ _ h
  exact h
theorem ev_wp {Φ : PhiT} {Γ : GamT} {n : Nat} {md : Md} {ρ : Rho} {e : X} {k : Nat} {r r' : Rz D} (o : List A) (h : r' = r) (q : wpEv Φ Γ n md ρ k e o r = Rs (r' = r) o) : ev Φ Γ n md ρ k e = r := by
  have h := q.mpr (Rs.of h o)
  obtain ⟨_, h⟩ := wp_ok _ _ _ _ _ _ _ h
  exact h
theorem loop_wp {Φ : PhiT} {Γ : GamT} {n m : Nat} {c : X} {ρ : Rho} {b : List S} {k : Nat} {r r' : RzS} (o : List A) (h : r' = r) (e : wpLoop Φ Γ n c b m ρ k o r = Rs (r' = r) o) : exW (fun ρ k => ev Φ Γ n .test ρ k c) (fun ρ k => exL (fun ρ k s => ex Φ Γ n ρ k s) b ρ k) m ρ k = r := by
  have h := e.mpr (Rs.of h o)
  obtain ⟨_, h⟩ := wpW_ok (fun ρ k o K h => wpSL_ok (fun ρ k o s K h => wpS_ok n ρ k o s K h) _ _ _ _ _ h) (fun ρ k o K h => wp_ok n .test ρ k o c K h) _ _ _ _ _ h
  exact h
theorem for_wp {Φ : PhiT} {Γ : GamT} {n x : Nat} {items : List D} {ρ : Rho} {b : List S} {k : Nat} {r r' : RzS} (o : List A) (h : r' = r) (e : wpFor Φ Γ n b x items ρ k o r = Rs (r' = r) o) : exF (fun ρ k => exL (fun ρ k s => ex Φ Γ n ρ k s) b ρ k) x items ρ k = r := by
  have h := e.mpr (Rs.of h o)
  obtain ⟨_, h⟩ := wpF_ok (fun ρ k o K h => wpSL_ok (fun ρ k o s K h => wpS_ok n ρ k o s K h) _ _ _ _ _ h) _ _ _ _ _ h
  exact h
end Mine

open PySem PySem.W PySem.Spec PySem.Calls PyProof.Rows
set_option Elab.async false
set_option maxRecDepth 100000
set_option linter.unusedSimpArgs false
set_option linter.unusedVariables false
namespace Mine

noncomputable abbrev R := Int × Int
noncomputable abbrev rD (r : R) : D := .tuple [.int r.1, .int r.2]
theorem shp_i {x : Int} : shp (.int x) = true := rfl
theorem shp_r {a b : Int} : shp (.tuple [.int a, .int b]) = true := rfl
theorem eqv_i {x y : Int} : PyData.eqv (.int x) (.int y) = (x == y) := rfl
theorem eqv_r {a b c d : Int} : PyData.eqv (.tuple [.int a, .int b]) (.tuple [.int c, .int d]) = ((a == c) && (b == d)) := by
  show ((a == c) && ((b == d) && true)) = _
  rw [Bool.and_true]

/-- f is known and answers so -/
noncomputable def Has (Φ : PhiT) (f : Nat) (P : List D → D → Prop) : Prop := ∃ φ, Φ f = some φ ∧ ∀ k ds d, P ds d → φ k ds = .ok d k
theorem Has.call {Φ : PhiT} {f : Nat} {P : List D → D → Prop} (h : Has Φ f P) {ds : List D} {d : D} (k : Nat) (p : P ds d) : callE (Φ f) (.ok ds k) = .ok d k := by
  obtain ⟨φ, e, q⟩ := h
  rw [e]
  exact q k ds d p

section
variable {Φ : PhiT} {Γ : GamT} {k : Nat}

noncomputable def gcdT : X := .cmp .NotEq (.var 452) (.int 0)
noncomputable def gcdL : List S := [.mass [450, 452] (.tup [(.var 452), (.bin .Mod (.var 450) (.var 452))])]
noncomputable abbrev gcdW (Φ : PhiT) (Γ : GamT) (n : Nat) (a b : Int) (k : Nat) : RzS := exW (fun ρ k => ev Φ Γ 1199 .test ρ k gcdT) (fun ρ k => exL (fun ρ k s => ex Φ Γ 1199 ρ k s) gcdL ρ k) n [(450, .val (.int a)), (452, .val (.int b))] k

theorem gcd_stop {n : Nat} {a : Int} : gcdW Φ Γ (n + 1) a 0 k = .ok (.next, [(450, .val (.int a)), (452, .val (.int 0))]) k := by
  unfold gcdW gcdT gcdL
  exact loop_wp [.go, .go] rfl (by kernel_rfl)
theorem gcd_go {n : Nat} {a b : Int} (h : b ≠ 0) : gcdW Φ Γ (n + 1) a b k = gcdW Φ Γ n b (a.fmod b) k := by
  have e : (!PyData.eqv (.int b) (.int 0)) = true := by rw [eqv_i, beq_eq_false_iff_ne.mpr h]; rfl
  have hm := mod_i (x := a) (k := k) h
  have hr : gcdW Φ Γ n b (a.fmod b) k = gcdW Φ Γ n b (a.fmod b) k := rfl
  unfold gcdW gcdT gcdL at hr ⊢
  exact loop_wp [.go, .b (e), .f (hm), .s (hr)] rfl (by kernel_rfl)

theorem gcd_nat : ∀ (j n : Nat) (a b : Nat), b < 2 ^ j → 2 * j < n → gcdW Φ Γ n a b k = .ok (.next, [(450, .val (.int (Nat.gcd a b : Nat))), (452, .val (.int 0))]) k := by
  intro j
  induction j with
  | zero =>
    intro n a b hb hn
    obtain ⟨n, rfl⟩ : ∃ m, n = m + 1 := ⟨n - 1, by omega⟩
    obtain rfl : b = 0 := by omega
    rw [show ((0 : Nat) : Int) = 0 from rfl, gcd_stop, Nat.gcd_zero_right]
  | succ j ih =>
    intro n a b hb hn
    obtain ⟨n, rfl⟩ : ∃ m, n = m + 2 + 1 := ⟨n - 3, by omega⟩
    by_cases h0 : b = 0
    · subst h0
      rw [show ((0 : Nat) : Int) = 0 from rfl, gcd_stop, Nat.gcd_zero_right]
    · rw [gcd_go (by omega), ← Int.ofNat_fmod]
      by_cases h1 : a % b = 0
      · rw [h1, show ((0 : Nat) : Int) = 0 from rfl, gcd_stop]
        have : Nat.gcd a b = b := by rw [Nat.gcd_comm, Nat.gcd_rec, h1, Nat.gcd_zero_left]
        rw [this]
      · rw [gcd_go (by omega), ← Int.ofNat_fmod]
        have hr : a % b < b := Nat.mod_lt _ (by omega)
        have hs : b % (a % b) < a % b := Nat.mod_lt _ (by omega)
        have h2 : b % (a % b) < 2 ^ j := by
          have h3 := Nat.div_add_mod b (a % b)
          have h4 : 1 ≤ b / (a % b) := Nat.div_pos (Nat.le_of_lt hr) (by omega)
          have h5 : a % b ≤ (a % b) * (b / (a % b)) := Nat.le_mul_of_pos_right _ h4
          rw [Nat.pow_succ] at hb
          omega
        rw [ih (n + 1) (a % b) (b % (a % b)) h2 (by omega)]
        have e1 : Nat.gcd (a % b) (b % (a % b)) = Nat.gcd a b := by
          rw [Nat.gcd_comm (a % b), ← Nat.gcd_rec, ← Nat.gcd_rec, Nat.gcd_comm]
        rw [e1]

theorem gcd_ok {a b : Int} (h : b.natAbs < 2 ^ 500) : runB Φ Γ 1200 Q_gcd B_gcd k [.int a, .int b] = .ok (.int (Nat.gcd a.natAbs b.natAbs : Nat)) k := by
  have ab : ∀ x : Int, (if x < 0 then -x else x) = (x.natAbs : Int) := fun x => by split <;> omega
  have W := gcd_nat (Φ := Φ) (Γ := Γ) (k := k) 500 1199 a.natAbs b.natAbs h (by decide)
  have a1 := (bi_abs (x := a) (k := k)).trans (by rw [ab])
  have b1 := (bi_abs (x := b) (k := k)).trans (by rw [ab])
  exact of_wp [.f (a1), .f (b1), .s (W)] rfl (by kernel_rfl)

/-! ratios -/
noncomputable def ratF (t b : Int) : R := if 0 < b then (t.fdiv (Nat.gcd t.natAbs b.natAbs : Nat), b.fdiv (Nat.gcd t.natAbs b.natAbs : Nat)) else (t.fdiv (0 - (Nat.gcd t.natAbs b.natAbs : Nat)), b.fdiv (0 - (Nat.gcd t.natAbs b.natAbs : Nat)))

theorem pyl {x y : Int} (h : y.natAbs < 2 ^ 500) : Builtin.divisionGoesByPylong x y = false := by
  unfold Builtin.divisionGoesByPylong
  have : ¬ ((if y == 0 then 0 else y.natAbs.log2 / 30 + 1) > 300) := by
    by_cases h0 : y = 0
    · subst h0; decide
    · have hl : y.natAbs.log2 < 500 := (Nat.log2_lt (by omega)).mpr h
      rw [if_neg (by simpa using h0)]
      omega
  have this' : decide ((if y == 0 then 0 else y.natAbs.log2 / 30 + 1) > 300) = false := decide_eq_false this
  show (decide ((if y == 0 then 0 else y.natAbs.log2 / 30 + 1) > 300) && _) = false
  rw [this', Bool.false_and]

noncomputable def gcdP (ds : List D) (d : D) : Prop := ∃ a b : Int, ds = [.int a, .int b] ∧ b.natAbs < 2 ^ 500 ∧ d = .int (Nat.gcd a.natAbs b.natAbs : Nat)

theorem gcd_le {t b : Int} (h : b ≠ 0) : Nat.gcd t.natAbs b.natAbs ≤ b.natAbs := Nat.le_of_dvd (by omega) (Nat.gcd_dvd_right _ _)
theorem gcd_pos {t b : Int} (h : b ≠ 0) : 0 < Nat.gcd t.natAbs b.natAbs := Nat.gcd_pos_of_pos_right _ (by omega)

theorem rat_ok (hg : Has Φ n_gcd gcdP) {t b : Int} (h0 : b ≠ 0) (h : b.natAbs < 2 ^ 500) : runB Φ Γ 1200 Q_rat B_rat k [.int t, .int b] = .ok (rD (ratF t b)) k := by
  have hc : ∀ k, callE (Φ n_gcd) (.ok [.int t, .int b] k) = .ok (.int (Nat.gcd t.natAbs b.natAbs : Nat)) k := fun k => hg.call k ⟨t, b, rfl, h, rfl⟩
  have e : (b == 0) = false := by simpa using h0
  have g1 := gcd_le (t := t) h0
  have g2 := gcd_pos (t := t) h0
  have e' : PyData.eqv (.int b) (.int 0) = false := e
  have hc := hc k
  unfold ratF
  by_cases hp : 0 < b
  · have d1 : ∀ x, binD .FloorDiv (.int x) (.int (Nat.gcd t.natAbs b.natAbs : Nat)) k = _ := fun x => div_i ⟨by omega, pyl (by omega)⟩
    have hp' := decide_eq_true hp
    rw [if_pos hp]
    exact of_wp [.go, .b (e'), .go, .b (hp'), .f (hc), .f (d1 t), .f (d1 b)] rfl (by kernel_rfl)
  · have d1 : ∀ x, binD .FloorDiv (.int x) (.int (0 - (Nat.gcd t.natAbs b.natAbs : Nat))) k = _ := fun x => div_i ⟨by omega, pyl (by omega)⟩
    have hp' := decide_eq_false hp
    rw [if_neg hp]
    exact of_wp [.go, .b (e'), .go, .b (hp'), .f (hc), .go, .f (d1 t), .f (d1 b)] rfl (by kernel_rfl)
end
end Mine

open PySem PySem.W PySem.Spec PySem.Calls PyProof.Rows
set_option Elab.async false
set_option maxRecDepth 100000
set_option linter.unusedSimpArgs false
set_option linter.unusedVariables false
namespace Mine

noncomputable abbrev sm (x : Int) : Prop := x.natAbs < 2 ^ 200
noncomputable abbrev smR (r : R) : Prop := sm r.1 ∧ sm r.2
theorem bits_sm {x : Int} (h : sm x) : Builtin.Int.intBits x ≤ 200 := by
  unfold Builtin.Int.intBits
  by_cases h0 : x = 0
  · subst h0; decide
  · rw [if_neg (by simpa using h0)]
    have hl : x.natAbs.log2 < 200 := (Nat.log2_lt (by omega)).mpr h
    omega
theorem mulOk_sm {x y : Int} (hx : sm x) (hy : sm y) : mulOk x y = true := by
  unfold mulOk
  have := bits_sm hx
  have := bits_sm hy
  exact decide_eq_true (by omega)
theorem mul_lt {x y : Int} (hx : sm x) (hy : sm y) : (x * y).natAbs < 2 ^ 500 := by
  rw [Int.natAbs_mul]
  have h1 : x.natAbs * y.natAbs < 2 ^ 200 * 2 ^ 200 := Nat.mul_lt_mul'' hx hy
  exact Nat.lt_trans h1 (by decide)

noncomputable def ratP (ds : List D) (d : D) : Prop := ∃ t b : Int, ds = [.int t, .int b] ∧ b ≠ 0 ∧ b.natAbs < 2 ^ 500 ∧ d = rD (ratF t b)
noncomputable def raddF (a b : R) : R := ratF (a.1 * b.2 + b.1 * a.2) (a.2 * b.2)
noncomputable def rsubF (a b : R) : R := ratF (a.1 * b.2 - b.1 * a.2) (a.2 * b.2)
noncomputable def rmulF (a b : R) : R := ratF (a.1 * b.1) (a.2 * b.2)
noncomputable def rdivF (a b : R) : R := ratF (a.1 * b.2) (a.2 * b.1)
noncomputable def raddP (ds : List D) (d : D) : Prop := ∃ a b : R, ds = [rD a, rD b] ∧ smR a ∧ smR b ∧ a.2 ≠ 0 ∧ b.2 ≠ 0 ∧ d = rD (raddF a b)
noncomputable def rsubP (ds : List D) (d : D) : Prop := ∃ a b : R, ds = [rD a, rD b] ∧ smR a ∧ smR b ∧ a.2 ≠ 0 ∧ b.2 ≠ 0 ∧ d = rD (rsubF a b)
noncomputable def rmulP (ds : List D) (d : D) : Prop := ∃ a b : R, ds = [rD a, rD b] ∧ smR a ∧ smR b ∧ a.2 ≠ 0 ∧ b.2 ≠ 0 ∧ d = rD (rmulF a b)
noncomputable def rdivP (ds : List D) (d : D) : Prop := ∃ a b : R, ds = [rD a, rD b] ∧ smR a ∧ smR b ∧ a.2 ≠ 0 ∧ b.1 ≠ 0 ∧ d = rD (rdivF a b)

section
variable {Φ : PhiT} {Γ : GamT} {k : Nat}

theorem ratH (h : Has Φ n_rat ratP) {t b : Int} (h0 : b ≠ 0) (hb : b.natAbs < 2 ^ 500) (k : Nat) : callE (Φ n_rat) (.ok [.int t, .int b] k) = .ok (rD (ratF t b)) k := h.call k ⟨t, b, rfl, h0, hb, rfl⟩

theorem radd_ok (hr : Has Φ n_rat ratP) {a b : R} (ha : smR a) (hb : smR b) (a0 : a.2 ≠ 0) (b0 : b.2 ≠ 0) : runB Φ Γ 1200 Q_radd B_radd k [rD a, rD b] = .ok (rD (raddF a b)) k := by
  have c := ratH hr (t := a.1 * b.2 + b.1 * a.2) (Int.mul_ne_zero a0 b0) (mul_lt ha.2 hb.2)
  have m0 := mul_i (k := k) (mulOk_sm ha.1 hb.2)
  have m1 := mul_i (k := k) (mulOk_sm hb.1 ha.2)
  have m2 := mul_i (k := k) (mulOk_sm ha.2 hb.2)
  exact of_wp [.go, .go, .f (m0), .go, .go, .f (m1), .go, .go, .go, .f (m2), .f (c k)] rfl (by kernel_rfl)
theorem rsub_ok (hr : Has Φ n_rat ratP) {a b : R} (ha : smR a) (hb : smR b) (a0 : a.2 ≠ 0) (b0 : b.2 ≠ 0) : runB Φ Γ 1200 Q_rsub B_rsub k [rD a, rD b] = .ok (rD (rsubF a b)) k := by
  have c := ratH hr (t := a.1 * b.2 - b.1 * a.2) (Int.mul_ne_zero a0 b0) (mul_lt ha.2 hb.2)
  have m0 := mul_i (k := k) (mulOk_sm ha.1 hb.2)
  have m1 := mul_i (k := k) (mulOk_sm hb.1 ha.2)
  have m2 := mul_i (k := k) (mulOk_sm ha.2 hb.2)
  exact of_wp [.go, .go, .f (m0), .go, .go, .f (m1), .go, .go, .go, .f (m2), .f (c k)] rfl (by kernel_rfl)
theorem rmul_ok (hr : Has Φ n_rat ratP) {a b : R} (ha : smR a) (hb : smR b) (a0 : a.2 ≠ 0) (b0 : b.2 ≠ 0) : runB Φ Γ 1200 Q_rmul B_rmul k [rD a, rD b] = .ok (rD (rmulF a b)) k := by
  have c := ratH hr (t := a.1 * b.1) (Int.mul_ne_zero a0 b0) (mul_lt ha.2 hb.2)
  have m0 := mul_i (k := k) (mulOk_sm ha.1 hb.1)
  have m1 := mul_i (k := k) (mulOk_sm ha.2 hb.2)
  exact of_wp [.go, .go, .f (m0), .go, .go, .f (m1), .f (c k)] rfl (by kernel_rfl)
theorem rdiv_ok (hr : Has Φ n_rat ratP) {a b : R} (ha : smR a) (hb : smR b) (a0 : a.2 ≠ 0) (b0 : b.1 ≠ 0) : runB Φ Γ 1200 Q_rdiv B_rdiv k [rD a, rD b] = .ok (rD (rdivF a b)) k := by
  have c := ratH hr (t := a.1 * b.2) (Int.mul_ne_zero a0 b0) (mul_lt ha.2 hb.1)
  have m0 := mul_i (k := k) (mulOk_sm ha.1 hb.2)
  have m1 := mul_i (k := k) (mulOk_sm ha.2 hb.1)
  exact of_wp [.go, .go, .f (m0), .go, .go, .f (m1), .f (c k)] rfl (by kernel_rfl)

/-- rcompare -/
noncomputable def rcmpP (ds : List D) (d : D) : Prop := ∃ a b : R, ds = [rD a, rD b] ∧ smR a ∧ smR b ∧ d = .int (b2i (decide (0 < a.1 * b.2 - b.1 * a.2)) - b2i (decide (a.1 * b.2 - b.1 * a.2 < 0)))
theorem rcompare_ok {a b : R} (ha : smR a) (hb : smR b) : runB Φ Γ 1200 Q_rcompare B_rcompare k [rD a, rD b] = .ok (.int (b2i (decide (0 < a.1 * b.2 - b.1 * a.2)) - b2i (decide (a.1 * b.2 - b.1 * a.2 < 0)))) k := by
  have m0 := mul_i (k := k) (mulOk_sm ha.1 hb.2)
  have m1 := mul_i (k := k) (mulOk_sm hb.1 ha.2)
  exact of_wp [.go, .go, .f (m0), .go, .go, .f (m1), .go, .go, .go, .go] rfl (by kernel_rfl)

/-- no number is vast here -/
noncomputable def vastP (ds : List D) (d : D) : Prop := ∃ a : R, ds = [rD a] ∧ a.1.natAbs < 2 ^ 60 ∧ a.2.natAbs < 2 ^ 60 ∧ d = .bool false
theorem vast_ok {a : R} (h1 : a.1.natAbs < 2 ^ 60) (h2 : a.2.natAbs < 2 ^ 60) : runB Φ Γ 1200 Q_is_vast B_is_vast k [rD a] = .ok (.bool false) k := by
  have hlt : decide ((2 ^ 64 : Int) ≤ if a.2 > (if a.1 < 0 then -a.1 else a.1) then a.2 else (if a.1 < 0 then -a.1 else a.1)) = false := decide_eq_false (by split <;> split <;> omega)
  exact of_wp [.go, .go, .go, .go, .go, .go, .b (hlt)] rfl (by kernel_rfl)
noncomputable def letP (ds : List D) (d : D) : Prop := ∃ a : R, ds = [rD a] ∧ a.1.natAbs < 2 ^ 60 ∧ a.2.natAbs < 2 ^ 60 ∧ d = rD a
theorem let_ok (hv : Has Φ n_is_vast vastP) {a : R} (h1 : a.1.natAbs < 2 ^ 60) (h2 : a.2.natAbs < 2 ^ 60) : runB Φ Γ 1200 Q_let B_let k [rD a] = .ok (rD a) k := by
  have c := fun k => hv.call k ⟨a, rfl, h1, h2, rfl⟩
  exact of_wp [.f (c k), .go] rfl (by kernel_rfl)
end
end Mine

open PySem PySem.W PySem.Spec PySem.Calls PyProof.Rows
set_option Elab.async false
set_option maxRecDepth 100000
set_option linter.unusedSimpArgs false
set_option linter.unusedVariables false
namespace Mine

noncomputable abbrev R0 : R := (0, 1)
noncomputable abbrev R1 : R := (1, 1)
noncomputable abbrev lD (l : List R) : D := .list (l.map rD)
noncomputable abbrev sD (l : Int) (rs : List R) : D := .tuple [.int l, lD rs]

/-- a small ratio -/
noncomputable def chk (r : R) : Bool := decide (r.1.natAbs < 2 ^ 60) && decide (r.2.natAbs < 2 ^ 60) && decide (r.2 ≠ 0)
theorem chk_iff {r : R} (h : chk r = true) : r.1.natAbs < 2 ^ 60 ∧ r.2.natAbs < 2 ^ 60 ∧ r.2 ≠ 0 := by
  unfold chk at h
  simp only [Bool.and_eq_true, decide_eq_true_eq] at h
  exact ⟨h.1.1, h.1.2, h.2⟩
theorem chk_sm {r : R} (h : chk r = true) : smR r := by
  have := chk_iff h
  exact ⟨Nat.lt_trans this.1 (by decide), Nat.lt_trans this.2.1 (by decide)⟩
theorem chk_0 {r : R} (h : chk r = true) : r.2 ≠ 0 := (chk_iff h).2.2

noncomputable def isR (c a : R) : Bool := (a.1 == c.1) && (a.2 == c.2)
noncomputable def mixF (a b : R) : R := if isR R0 a then R0 else if isR R0 b then R0 else raddF R0 (rmulF a b)
noncomputable def mixOk (a b : R) : Bool := chk a && chk b && chk (rmulF a b) && chk (mixF a b)

structure Gm (Γ : GamT) : Prop where
  r0 : Γ 45220 = some (rD R0)
  r1 : Γ 45476 = some (rD R1)
  sq : Γ n_MOST_SQUARED = some (.int 1000)

section
variable {Φ : PhiT} {Γ : GamT} {k : Nat}

theorem bi_lenl' {l : List D} (h : l.length ≤ 1000000) : biD .len [.list l] k = .ok (.int l.length) k := bi_lenl (Nat.le_trans h (by simp [sizeLine]))
theorem it_l' {l : List D} (h : l.length ≤ 1000000) : itemsD (.list l) k = .ok (.list l) k := it_l (Nat.le_trans h (by simp [sizeLine]))
theorem it_one {x : D} : itemsD (.list [x]) k = .ok (.list [x]) k := it_l' (by rw [List.length_singleton]; omega)
theorem len_1 {a : R} : biD .len [lD [a]] k = .ok (.int 1) k := bi_lenl' (Nat.le_of_ble_eq_true rfl)
theorem rng_one : rngD [.int 1] k = .ok (.list [.int 0]) k := rfl
theorem rng_no : rngD [.int 1, .int 1] k = .ok (.list []) k := rfl

noncomputable def mixedP (ds : List D) (d : D) : Prop := ∃ (a b : R) (as bs : List R), ds = [lD (a :: as), lD (b :: bs), .int 0] ∧ mixOk a b = true ∧ d = rD (mixF a b)
theorem mixed_ok (g : Gm Γ) (hm : Has Φ n_rmul rmulP) (ha : Has Φ n_radd raddP) {a b : R} {as bs : List R} (h : mixOk a b = true) : runB Φ Γ 60 Q_mixed B_mixed k [lD (a :: as), lD (b :: bs), .int 0] = .ok (rD (mixF a b)) k := by
  unfold mixOk at h
  simp only [Bool.and_eq_true] at h
  obtain ⟨⟨⟨h1, h2⟩, h3⟩, h4⟩ := h
  have cm := fun k => hm.call k ⟨a, b, rfl, chk_sm h1, chk_sm h2, chk_0 h1, chk_0 h2, rfl⟩
  have ca := fun k => ha.call k ⟨R0, rmulF a b, rfl, by decide, chk_sm h3, by decide, chk_0 h3, rfl⟩
  have hr : ∀ x : R, cmpD .NotEq (rD x) (rD R0) k = .ok (.bool (!isR R0 x)) k := fun x => by
    rw [ne_d (by rfl), eqv_r]
    rfl
  have r0 := getG_hit (k := k) g.r0
  unfold mixF
  have nt : ∀ {b : Bool}, b = true → (!b) = false := fun h => by rw [h]; rfl
  have nf : ∀ {b : Bool}, b = false → (!b) = true := fun h => by rw [h]; rfl
  cases e1 : isR R0 a with
  | true =>
    rw [if_pos rfl]
    have e1' := nt e1
    exact of_wp [.f (r0), .go, .go, .go, .go, .f (r0), .f (hr a), .b (e1'), .go, .go] rfl (by kernel_rfl)
  | false =>
    rw [if_neg (by decide)]
    cases e2 : isR R0 b with
    | true =>
      rw [if_pos rfl]
      have e1' := nf e1
      have e2' := nt e2
      exact of_wp [.f (r0), .go, .go, .go, .go, .f (r0), .f (hr a), .b (e1'), .go, .go, .f (r0), .f (hr b), .b (e2'), .go, .go] rfl (by kernel_rfl)
    | false =>
      rw [if_neg (by decide)]
      have e1' := nf e1
      have e2' := nf e2
      exact of_wp [.f (r0), .go, .go, .go, .go, .f (r0), .f (hr a), .b (e1'), .go, .go, .f (r0), .f (hr b), .b (e2'), .go, .go, .go, .go, .f (cm k), .f (ca k), .go] rfl (by kernel_rfl)

noncomputable def smulP (ds : List D) (d : D) : Prop := ∃ (a b : R) (as bs : List R), ds = [lD (a :: as), lD (b :: bs)] ∧ (as = [] ∨ bs = []) ∧ as.length ≤ 1000 ∧ bs.length ≤ 1000 ∧ mixOk a b = true ∧ d = lD [mixF a b]
theorem smul_ok (hm : Has Φ n_mixed mixedP) (hl : Has Φ n_let letP) {a b : R} {as bs : List R} (hn : as = [] ∨ bs = []) (l1 : as.length ≤ 1000) (l2 : bs.length ≤ 1000) (h : mixOk a b = true) : runB Φ Γ 60 Q_smul B_smul k [lD (a :: as), lD (b :: bs)] = .ok (lD [mixF a b]) k := by
  have h4 : chk (mixF a b) = true := by
    unfold mixOk at h
    simp only [Bool.and_eq_true] at h
    exact h.2
  have cm := fun k => hm.call k ⟨a, b, as, bs, rfl, h, rfl⟩
  have cl := fun k => hl.call k ⟨mixF a b, rfl, (chk_iff h4).1, (chk_iff h4).2.1, rfl⟩
  have hmin : biD .min [.int ((as.length + 1 : Nat) : Int), .int ((bs.length + 1 : Nat) : Int)] k = .ok (.int 1) k := by
    rw [bi_min]
    congr 2
    rcases hn with rfl | rfl
    · simp only [List.length_nil]; split <;> omega
    · simp only [List.length_nil]; split <;> omega
  have e1 : biD .len [lD (a :: as)] k = .ok (.int (as.length + 1 : Nat)) k := by
    rw [bi_lenl' (by simp; omega)]
    simp
  have e2 : biD .len [lD (b :: bs)] k = .ok (.int (bs.length + 1 : Nat)) k := by
    rw [bi_lenl' (by simp; omega)]
    simp
  exact of_wp [.f (e1), .f (e2), .f (hmin), .go, .go, .f (cm k), .f (cl k)] rfl (by kernel_rfl)

noncomputable def sscaleP (ds : List D) (d : D) : Prop := ∃ a b : R, ds = [rD a, lD [b]] ∧ chk a = true ∧ chk b = true ∧ d = lD [rmulF a b]
theorem sscale_ok (hm : Has Φ n_rmul rmulP) {a b : R} (h1 : chk a = true) (h2 : chk b = true) : runB Φ Γ 60 Q_sscale B_sscale k [rD a, lD [b]] = .ok (lD [rmulF a b]) k := by
  have cm := fun k => hm.call k ⟨a, b, rfl, chk_sm h1, chk_sm h2, chk_0 h1, chk_0 h2, rfl⟩
  exact of_wp [.go, .go, .f (cm k)] rfl (by kernel_rfl)

noncomputable def sinvP (ds : List D) (d : D) : Prop := ∃ a : R, ds = [lD [a]] ∧ chk a = true ∧ a.1 ≠ 0 ∧ chk (rdivF R1 a) = true ∧ d = lD [rdivF R1 a]
theorem sinv_ok (g : Gm Γ) (hd : Has Φ n_rdiv rdivP) (hl : Has Φ n_let letP) {a : R} (h1 : chk a = true) (h2 : a.1 ≠ 0) (h3 : chk (rdivF R1 a) = true) : runB Φ Γ 60 Q_sinverse B_sinverse k [lD [a]] = .ok (lD [rdivF R1 a]) k := by
  have cd := fun k => hd.call k ⟨R1, a, rfl, by decide, chk_sm h1, by decide, h2, rfl⟩
  have cl := fun k => hl.call k ⟨rdivF R1 a, rfl, (chk_iff h3).1, (chk_iff h3).2.1, rfl⟩
  have hr : PyData.eqv (rD a) (rD R0) = false := by
    rw [eqv_r]
    have : (a.1 == 0) = false := by simpa using h2
    rw [this]; rfl
  have r0 := getG_hit (k := k) g.r0
  have r1 := getG_hit (k := k) g.r1
  have l1 := len_1 (a := a) (k := k)
  exact of_wp [.f (l1), .go, .go, .go, .f (r0), .go, .b (hr), .go, .f (l1), .go, .go, .go, .go, .f (r1), .go, .go, .go, .go, .go, .f (cd k), .f (cl k), .go] rfl (by kernel_rfl)
end
end Mine

open PySem PySem.W PySem.Spec PySem.Calls PyProof.Rows
set_option Elab.async false
set_option maxRecDepth 100000
set_option linter.unusedSimpArgs false
set_option linter.unusedVariables false
namespace Mine
section
variable {Φ : PhiT} {Γ : GamT} {k : Nat}

theorem sz {n : Nat} (h : n ≤ 1000000) : n ≤ sizeLine := Nat.le_trans h (by simp [sizeLine])
theorem ml_0 {a : R} : binD .Mult (.list [rD a]) (.int 0) k = .ok (.list []) k := (mul_l ⟨by decide, by decide, sz (by rw [List.length_singleton]; decide)⟩).trans rfl

/-- a series that begins so -/
noncomputable def needP (ds : List D) (d : D) : Prop := ∃ a : R, ds = [lD [a], rD a] ∧ chk a = true ∧ d = .none
theorem need_ok (hc : Has Φ n_rcompare rcmpP) {a : R} (h : chk a = true) : runB Φ Γ 60 Q_need_begin B_need_begin k [lD [a], rD a] = .ok .none k := by
  have cc : ∀ k, callE (Φ n_rcompare) (.ok [rD a, rD a] k) = .ok (.int 0) k := fun k => by
    rw [hc.call k ⟨a, a, rfl, chk_sm h, chk_sm h, rfl⟩, Int.sub_self]
    rfl
  have l1 := len_1 (a := a) (k := k)
  exact of_wp [.f (l1), .go, .go, .go, .f (cc k), .go, .go, .go] rfl (by kernel_rfl)

noncomputable def spowP (ds : List D) (d : D) : Prop := ∃ n : D, ds = [lD [R1], n] ∧ d = lD [R1]
theorem spow_ok (g : Gm Γ) (hn : Has Φ n_need_begin needP) {n : D} : runB Φ Γ 60 Q_spower B_spower k [lD [R1], n] = .ok (lD [R1]) k := by
  have cn := fun k => hn.call k ⟨R1, rfl, by decide, rfl⟩
  have l1 := len_1 (a := R1) (k := k)
  have r0 := getG_hit (k := k) g.r0
  have r1 := getG_hit (k := k) g.r1
  exact of_wp [.f (r1), .f (cn k), .f (l1), .go, .go, .f (r0), .go, .go, .go, .go, .go, .go, .f (r1), .go] rfl (by kernel_rfl)

noncomputable def cutP (ds : List D) (d : D) : Prop := ∃ a : R, ds = [lD [a], .int 1] ∧ d = lD [a]
theorem cut_ok (g : Gm Γ) {a : R} : runB Φ Γ 60 Q_cut B_cut k [lD [a], .int 1] = .ok (lD [a]) k := by
  have l1 := len_1 (a := a) (k := k)
  have r0 := getG_hit (k := k) g.r0
  have m0 := ml_0 (a := R0) (k := k)
  exact of_wp [.go, .go, .f (r0), .f (l1), .go, .f (m0), .go] rfl (by kernel_rfl)

noncomputable def lplP (ds : List D) (d : D) : Prop := ∃ a : R, ds = [rD a, .int 1] ∧ d = sD 0 [a]
theorem lpl_ok (g : Gm Γ) {a : R} : runB Φ Γ 60 Q_lplain B_lplain k [rD a, .int 1] = .ok (sD 0 [a]) k := by
  have r0 := getG_hit (k := k) g.r0
  have m0 := ml_0 (a := R0) (k := k)
  exact of_wp [.f (r0), .go, .f (m0), .go] rfl (by kernel_rfl)

noncomputable def lmulP (ds : List D) (d : D) : Prop := ∃ (l1 l2 : Int) (a b : R) (bs : List R), ds = [sD l1 [a], sD l2 (b :: bs)] ∧ bs.length ≤ 1000 ∧ mixOk a b = true ∧ d = sD (l1 + l2) [mixF a b]
theorem lmul_ok (hs : Has Φ n_smul smulP) {l1 l2 : Int} {a b : R} {bs : List R} (h1 : bs.length ≤ 1000) (h2 : mixOk a b = true) : runB Φ Γ 60 Q_lmul B_lmul k [sD l1 [a], sD l2 (b :: bs)] = .ok (sD (l1 + l2) [mixF a b]) k := by
  have cs := fun k => hs.call k ⟨a, b, [], bs, rfl, .inl rfl, Nat.zero_le _, h1, h2, rfl⟩
  exact of_wp [.go, .go, .go, .go, .go, .f (cs k)] rfl (by kernel_rfl)
end
end Mine

open PySem PySem.W PySem.Spec PySem.Calls PyProof.Rows
set_option Elab.async false
set_option maxRecDepth 100000
set_option linter.unusedSimpArgs false
set_option linter.unusedVariables false
namespace Mine
section
variable {Φ : PhiT} {Γ : GamT} {k : Nat}

/-! rpower -/
noncomputable def rpF (a : R) (n : Int) : R := if n = 1 then a else if n % 2 = 0 then R1 else a
noncomputable def rpOk (a : R) (n : Int) : Bool := (n == 1 && chk a) || (decide (2 ≤ n) && decide (n ≤ 2097152) && (a == (1, 1) || a == (-1, 1)))
noncomputable def rpowP (ds : List D) (d : D) : Prop := ∃ (a : R) (n : Int), ds = [rD a, .int n] ∧ rpOk a n = true ∧ d = rD (rpF a n)
theorem neg_pow (n : Nat) : (-1 : Int) ^ n = if n % 2 = 0 then 1 else -1 := by
  induction n with
  | zero => rfl
  | succ n ih =>
    rw [Int.pow_succ, ih]
    by_cases h : n % 2 = 0
    · rw [if_pos h, if_neg (by omega)]; rfl
    · rw [if_neg h, if_pos (by omega)]; rfl
theorem bits_60 {x : Int} (h : x.natAbs < 2 ^ 60) : Builtin.Int.intBits x ≤ 60 := by
  unfold Builtin.Int.intBits
  by_cases h0 : x = 0
  · subst h0; decide
  · rw [if_neg (by simpa using h0)]
    have hl : x.natAbs.log2 < 60 := (Nat.log2_lt (by omega)).mpr h
    omega
theorem rpower_ok {a : R} {n : Int} (h : rpOk a n = true) : runB Φ Γ 60 Q_rpower B_rpower k [rD a, .int n] = .ok (rD (rpF a n)) k := by
  unfold rpOk at h
  simp only [Bool.or_eq_true, Bool.and_eq_true, beq_iff_eq, decide_eq_true_eq] at h
  rcases h with ⟨rfl, hc⟩ | ⟨⟨h1, h2⟩, h3⟩
  · have c := chk_iff hc
    have e1 : ∀ x : Int, x.natAbs < 2 ^ 60 → binD .Pow (.int x) (.int 1) k = .ok (.int x) k := fun x hx => by
      have := bits_60 hx
      rw [pow_i ⟨by decide, by omega⟩]
      show Rz.ok (PyData.int (x ^ 1)) k = _
      rw [Int.pow_succ, Int.pow_zero, Int.one_mul]
    have q1 := e1 _ c.1
    have q2 := e1 _ c.2.1
    exact of_wp [.go, .go, .go, .go, .go, .go, .go, .go, .go, .go, .f (q1), .go, .f (q2)] rfl (by kernel_rfl)
  · have h0 : decide (n < 0) = false := decide_eq_false (by omega)
    have hg : decide ((1 : Int) < n) = true := decide_eq_true (by omega)
    have p1 : binD .Pow (.int 1) (.int n) k = .ok (.int 1) k := by
      rw [pow_i ⟨by omega, by
        show ((1 : Nat) : Int) * n ≤ _
        omega⟩, Int.one_pow]
    have p2 : binD .Pow (.int (-1)) (.int n) k = .ok (.int (if n % 2 = 0 then 1 else -1)) k := by
      rw [pow_i ⟨by omega, by
        show ((1 : Nat) : Int) * n ≤ _
        omega⟩, neg_pow]
      by_cases hz : n % 2 = 0
      · rw [if_pos hz, if_pos (by omega)]
      · rw [if_neg hz, if_neg (by omega)]
    rcases h3 with rfl | rfl
    · have fin : Rz.ok (.tuple [.int 1, .int 1]) k = .ok (rD (rpF (1, 1) n)) k := by
        unfold rpF
        rw [if_neg (show ¬ n = 1 by omega)]
        split <;> rfl
      exact of_wp [.go, .b (h0), .go, .go, .go, .go, .go, .b (hg), .go, .go, .go, .go, .f (p1), .go, .f (p1)] (fin) (by kernel_rfl)
    · have fin : Rz.ok (.tuple [.int (if n % 2 = 0 then 1 else -1), .int 1]) k = .ok (rD (rpF (-1, 1) n)) k := by
        unfold rpF
        rw [if_neg (show ¬ n = 1 by omega)]
        by_cases hz : n % 2 = 0
        · rw [if_pos hz, if_pos hz]
        · rw [if_neg hz, if_neg hz]
      exact of_wp [.go, .b (h0), .go, .go, .go, .go, .go, .b (hg), .go, .go, .go, .go, .f (p2), .go, .f (p1)] (fin) (by kernel_rfl)
end
end Mine

open PySem PySem.W PySem.Spec PySem.Calls PyProof.Rows
set_option Elab.async false
set_option maxRecDepth 100000
set_option linter.unusedSimpArgs false
set_option linter.unusedVariables false
namespace Mine
section
variable {Φ : PhiT} {Γ : GamT} {k : Nat}

/-! swhole_power of a series with one member -/
noncomputable def swF : Nat → R → R → Nat → Option R
  | 0, _, _, _ => none
  | n + 1, b, f, left =>
    if left = 0 then some f else
      if (left % 2 = 1 → mixOk f b = true) ∧ (left / 2 ≠ 0 → mixOk b b = true) then
        swF n (if left / 2 = 0 then b else mixF b b) (if left % 2 = 1 then mixF f b else f) (left / 2)
      else none

noncomputable def swT : X := .cmp .Gt (.var 1026778584) (.int 0)
noncomputable def swL : List S := [.ite (.cmp .Eq (.bin .Mod (.var 1026778584) (.int 2)) (.int 1)) [.assign 122871803852 (.call 993717734 [(.var 122871803852), (.var 964288964)])] [], .assign 1026778584 (.bin .FloorDiv (.var 1026778584) (.int 2)), .assign 964288964 (.ite (.cmp .Gt (.var 1026778584) (.int 0)) (.call 993717734 [(.var 964288964), (.var 964288964)]) (.var 964288964))]
noncomputable abbrev swW (Φ : PhiT) (Γ : GamT) (n : Nat) (a b f : R) (m left : Int) (k : Nat) : RzS := exW (fun ρ k => ev Φ Γ 59 .test ρ k swT) (fun ρ k => exL (fun ρ k s => ex Φ Γ 59 ρ k s) swL ρ k) n [(450, .val (lD [a])), (1048011226, .val (.int m)), (964288964, .val (lD [b])), (122871803852, .val (lD [f])), (1026778584, .val (.int left))] k
noncomputable def swEnd (Φ : PhiT) (Γ : GamT) (n : Nat) (a b f : R) (m left : Int) (k : Nat) (r : R) : Prop := ∃ b' left', swW Φ Γ n a b f m left k = .ok (.next, [(450, .val (lD [a])), (1048011226, .val (.int m)), (964288964, .val (lD [b'])), (122871803852, .val (lD [r])), (1026778584, .val (.int left'))]) k

theorem sw_loop (hs : Has Φ n_smul smulP) {a : R} {m : Int} : ∀ (n : Nat) (b f r : R) (left : Nat), swF n b f left = some r → swEnd Φ Γ n a b f m left k r := by
  intro n
  induction n with
  | zero => intro b f r left h; cases h
  | succ n ih =>
    intro b f r left h
    unfold swF at h
    by_cases h0 : left = 0
    · rw [if_pos h0] at h
      subst h0
      cases h
      refine ⟨b, 0, ?_⟩
      unfold swW swT swL
      exact loop_wp [.go, .go] rfl (by kernel_rfl)
    · rw [if_neg h0] at h
      split at h
      case isFalse => cases h
      rename_i hh
      obtain ⟨b', left', e⟩ := ih _ _ _ _ h
      refine ⟨b', left', ?_⟩
      have hz : decide ((0 : Int) < (left : Int)) = true := decide_eq_true (by omega)
      have hd : binD .FloorDiv (.int (left : Int)) (.int 2) k = .ok (.int ((left / 2 : Nat) : Int)) k := by
        rw [div_i ⟨by decide, pyl (by decide)⟩, show (2 : Int) = ((2 : Nat) : Int) from rfl, ← Int.ofNat_fdiv]
      have hm : binD .Mod (.int (left : Int)) (.int 2) k = .ok (.int ((left % 2 : Nat) : Int)) k := by
        rw [mod_i (by decide), show (2 : Int) = ((2 : Nat) : Int) from rfl, ← Int.ofNat_fmod]
      have hq : cmpD .Eq (.int ((left % 2 : Nat) : Int)) (.int 1) k = .ok (.bool (decide (left % 2 = 1))) k := by
        rw [eq_d rfl, eqv_i]
        by_cases hx : left % 2 = 1
        · rw [hx]; rfl
        · rw [decide_eq_false hx, beq_eq_false_iff_ne.mpr (by omega)]
      have c1 : left % 2 = 1 → callE (Φ n_smul) (.ok [lD [f], lD [b]] k) = .ok (lD [mixF f b]) k := fun hx => hs.call k ⟨f, b, [], [], rfl, .inl rfl, Nat.zero_le _, Nat.zero_le _, hh.1 hx, rfl⟩
      have c2 : left / 2 ≠ 0 → callE (Φ n_smul) (.ok [lD [b], lD [b]] k) = .ok (lD [mixF b b]) k := fun hx => hs.call k ⟨b, b, [], [], rfl, .inl rfl, Nat.zero_le _, Nat.zero_le _, hh.2 hx, rfl⟩
      unfold swW swT swL at e ⊢
      by_cases hx : left % 2 = 1
      · have c1' := c1 hx
        have hx' := decide_eq_true hx
        by_cases hy : left / 2 = 0
        · have hp : decide ((0 : Int) < ((left / 2 : Nat) : Int)) = false := decide_eq_false (by omega)
          rw [if_pos hy, if_pos hx] at e
          exact loop_wp [.go, .b (hz), .f (hm), .f (hq), .b (hx'), .f (c1'), .f (hd), .go, .b (hp), .s (e)] rfl (by kernel_rfl)
        · have hp : decide ((0 : Int) < ((left / 2 : Nat) : Int)) = true := decide_eq_true (by omega)
          have c2' := c2 hy
          rw [if_neg hy, if_pos hx] at e
          exact loop_wp [.go, .b (hz), .f (hm), .f (hq), .b (hx'), .f (c1'), .f (hd), .go, .b (hp), .f (c2'), .s (e)] rfl (by kernel_rfl)
      · have hx' := decide_eq_false hx
        by_cases hy : left / 2 = 0
        · have hp : decide ((0 : Int) < ((left / 2 : Nat) : Int)) = false := decide_eq_false (by omega)
          rw [if_pos hy, if_neg hx] at e
          exact loop_wp [.go, .b (hz), .f (hm), .f (hq), .b (hx'), .f (hd), .go, .b (hp), .s (e)] rfl (by kernel_rfl)
        · have hp : decide ((0 : Int) < ((left / 2 : Nat) : Int)) = true := decide_eq_true (by omega)
          have c2' := c2 hy
          rw [if_neg hy, if_neg hx] at e
          exact loop_wp [.go, .b (hz), .f (hm), .f (hq), .b (hx'), .f (hd), .go, .b (hp), .f (c2'), .s (e)] rfl (by kernel_rfl)

noncomputable def cut1P (ds : List D) (d : D) : Prop := ∃ a : R, ds = [lD [a], .int 1] ∧ d = lD [a]
noncomputable def swP (ds : List D) (d : D) : Prop := ∃ (a r : R) (m : Nat), ds = [lD [a], .int m] ∧ swF 59 a R1 m = some r ∧ d = lD [r]
theorem sw_ok (g : Gm Γ) (hs : Has Φ n_smul smulP) (hc : Has Φ n_cut cutP) {a r : R} {m : Nat} (h : swF 59 a R1 m = some r) : runB Φ Γ 60 Q_swhole_power B_swhole_power k [lD [a], .int m] = .ok (lD [r]) k := by
  obtain ⟨b', left', e⟩ := sw_loop (Φ := Φ) (Γ := Γ) (k := k) hs (a := a) (m := m) 59 a R1 r m h
  have cc := fun k => hc.call k ⟨R1, rfl, rfl⟩
  have h0 : decide ((m : Int) < 0) = false := decide_eq_false (by omega)
  have ab : biD .abs [.int (m : Int)] k = .ok (.int m) k := by rw [bi_abs, if_neg (by omega)]
  have r1 := getG_hit (k := k) g.r1
  have l1 := len_1 (a := a) (k := k)
  unfold swW swT swL at e
  exact of_wp [.go, .go, .f (r1), .f (l1), .f (cc k), .f (ab), .s (e)] rfl (by kernel_rfl)
end
end Mine

open PySem PySem.W PySem.Spec PySem.Calls PyProof.Rows
set_option Elab.async false
set_option maxRecDepth 100000
set_option linter.unusedSimpArgs false
set_option linter.unusedVariables false
namespace Mine
section
variable {Φ : PhiT} {Γ : GamT} {k : Nat}

/-! ltrim -/
noncomputable def trimF : Int → List R → Int × List R
  | l, [] => (l, [])
  | l, a :: as => if isR R0 a = true then trimF (l + 1) as else (l, a :: as)

noncomputable def trT : X := .band [(.cmp .Gt (.bi .len [(.var 1027204580)]) (.int 0)), (.cmp .Eq (.idx (.var 1027204580) (.int 0)) (.glob 45220))]
noncomputable def trL : List S := [.mass [8122328, 1027204580] (.tup [(.bin .Add (.var 8122328) (.int 1)), (.from_ (.var 1027204580) (.int 1))])]
noncomputable abbrev trW (Φ : PhiT) (Γ : GamT) (n : Nat) (d : D) (l : Int) (rs : List R) (k : Nat) : RzS := exW (fun ρ k => ev Φ Γ 59 .test ρ k trT) (fun ρ k => exL (fun ρ k s => ex Φ Γ 59 ρ k s) trL ρ k) n [(450, .val d), (8122328, .val (.int l)), (1027204580, .val (lD rs))] k

theorem from_1 {x : D} {l : List D} (h : l.length ≤ 1000) : fromD (.list (x :: l)) (.int 1) k = .ok (.list l) k := (fr_l ⟨by decide, sz (by rw [List.length_cons]; omega)⟩).trans rfl

theorem tr_loop (g : Gm Γ) {d : D} : ∀ (rs : List R) (n : Nat) (l : Int), rs.length < n → rs.length ≤ 1000 → trW Φ Γ n d l rs k = .ok (.next, [(450, .val d), (8122328, .val (.int (trimF l rs).1)), (1027204580, .val (lD (trimF l rs).2))]) k := by
  have r0 := getG_hit (k := k) g.r0
  intro rs
  induction rs with
  | nil =>
    intro n l h _
    obtain ⟨n, rfl⟩ : ∃ m, n = m + 1 := ⟨n - 1, by omega⟩
    unfold trW trT trL trimF
    exact loop_wp [.go, .go, .go, .go] rfl (by kernel_rfl)
  | cons a as ih =>
    intro n l h h2
    obtain ⟨n, rfl⟩ : ∃ m, n = m + 1 := ⟨n - 1, by omega⟩
    rw [List.length_cons] at h h2
    have e1 : biD .len [lD (a :: as)] k = .ok (.int (as.length + 1 : Nat)) k := by
      rw [bi_lenl' (by rw [List.length_map, List.length_cons]; omega), List.length_map, List.length_cons]
    have hz : decide ((0 : Int) < (as.length + 1 : Nat)) = true := decide_eq_true (by omega)
    have hr : cmpD .Eq (rD a) (rD R0) k = .ok (.bool (isR R0 a)) k := by
      rw [eq_d (by rfl), eqv_r]
      rfl
    unfold trimF
    cases ea : isR R0 a with
    | false =>
      rw [if_neg (by decide)]
      unfold trW trT trL
      exact loop_wp [.f (e1), .go, .b (hz), .go, .f (r0), .f (hr), .b (ea), .go] rfl (by kernel_rfl)
    | true =>
      rw [if_pos rfl]
      have fr := from_1 (k := k) (x := rD a) (l := as.map rD) (by rw [List.length_map]; omega)
      have e := ih n (l + 1) (by omega) (by omega)
      unfold trW trT trL at e ⊢
      exact loop_wp [.f (e1), .go, .b (hz), .go, .f (r0), .f (hr), .b (ea), .go, .go, .f (fr), .s (e)] rfl (by kernel_rfl)

noncomputable def trimP (ds : List D) (d : D) : Prop := ∃ (l : Int) (rs : List R), ds = [sD l rs] ∧ rs.length ≤ 50 ∧ d = sD (trimF l rs).1 (trimF l rs).2
theorem ltrim_ok (g : Gm Γ) {l : Int} {rs : List R} (h : rs.length ≤ 50) : runB Φ Γ 60 Q_ltrim B_ltrim k [sD l rs] = .ok (sD (trimF l rs).1 (trimF l rs).2) k := by
  have e := tr_loop (Φ := Φ) (Γ := Γ) (k := k) g (d := sD l rs) rs 59 l (by omega) (by omega)
  unfold trW trT trL at e
  exact of_wp [.s (e)] rfl (by kernel_rfl)

/-! linverse -/
noncomputable def chkI (x : Int) : Bool := decide (x.natAbs < 2 ^ 60)
noncomputable def invOk (a : R) : Bool := chk a && decide (a.1 ≠ 0) && chk (rdivF R1 a)
noncomputable def linvP (ds : List D) (d : D) : Prop := ∃ (l l' : Int) (rs : List R) (a : R), ds = [sD l rs] ∧ rs.length ≤ 50 ∧ trimF l rs = (l', [a]) ∧ invOk a = true ∧ d = sD (0 - l') [rdivF R1 a]
theorem linv_ok (ht : Has Φ n_ltrim trimP) (hi : Has Φ n_sinverse sinvP) {l l' : Int} {rs : List R} {a : R} (h : rs.length ≤ 50) (h2 : trimF l rs = (l', [a])) (h3 : invOk a = true) : runB Φ Γ 60 Q_linverse B_linverse k [sD l rs] = .ok (sD (0 - l') [rdivF R1 a]) k := by
  unfold invOk at h3
  simp only [Bool.and_eq_true, decide_eq_true_eq] at h3
  have ct := fun k => ht.call k ⟨l, rs, rfl, h, rfl⟩
  rw [h2] at ct
  have ci := fun k => hi.call k ⟨a, rfl, h3.1.1, h3.1.2, h3.2, rfl⟩
  have l1 := len_1 (a := a) (k := k)
  exact of_wp [.f (ct k), .f (l1), .go, .go, .go, .f (ci k)] rfl (by kernel_rfl)
end
end Mine

open PySem PySem.W PySem.Spec PySem.Calls PyProof.Rows
set_option Elab.async false
set_option maxRecDepth 100000
set_option linter.unusedSimpArgs false
set_option linter.unusedVariables false
namespace Mine
section
variable {Φ : PhiT} {Γ : GamT} {k : Nat}

/-! lpower -/
noncomputable def lpF1 (l : Int) (rs : List R) (m : Int) : Option (Int × List R) :=
  if m = 0 then (match rs with
    | [_] => some (0, [R1])
    | [_, _] => some (0, [R1, R0])
    | _ => none)
  else if m < 0 then none
  else match trimF l rs with
    | (l', [a]) => if (rpOk a m && chkI l' && chkI m) = true then
        (if m ≤ 1000 then (match swF 59 a R1 m.toNat with
          | some r => some (l' * m, [r])
          | none => none)
        else if (chk a && invOk a && (rmulF (rdivF R1 a) a == R1) && chk (rpF a m)) = true then some (l' * m, [rmulF (rpF a m) R1]) else none) else none
    | _ => none
noncomputable def lpF (l : Int) (rs : List R) (m : Int) : Option (Int × List R) :=
  if m < 0 then (match trimF l rs with
    | (l', [a]) => if invOk a = true then lpF1 (0 - l') [rdivF R1 a] (0 - m) else none
    | _ => none)
  else lpF1 l rs m
noncomputable def lpP1 (ds : List D) (d : D) : Prop := ∃ (l l' m : Int) (rs rs' : List R), ds = [sD l rs, .int m] ∧ rs.length ≤ 50 ∧ lpF1 l rs m = some (l', rs') ∧ d = sD l' rs'
noncomputable def lpP (ds : List D) (d : D) : Prop := ∃ (l l' m : Int) (rs rs' : List R), ds = [sD l rs, .int m] ∧ rs.length ≤ 50 ∧ lpF l rs m = some (l', rs') ∧ d = sD l' rs'

theorem chkI_sm {x : Int} (h : chkI x = true) : sm x := by
  unfold chkI at h
  have := decide_eq_true_eq.mp h
  exact Nat.lt_trans this (by decide)
theorem eq_i0 {m : Int} : cmpD .Eq (.int m) (.int 0) k = .ok (.bool (decide (m = 0))) k := by
  rw [eq_d rfl, eqv_i]
  by_cases h : m = 0
  · rw [h]; rfl
  · rw [decide_eq_false h, beq_eq_false_iff_ne.mpr h]
theorem ml_1 {a : R} : binD .Mult (.list [rD a]) (.int 1) k = .ok (.list [rD a]) k := (mul_l ⟨by decide, by decide, sz (by rw [List.length_singleton]; decide)⟩).trans rfl
theorem len_2 {x y : R} : biD .len [lD [x, y]] k = .ok (.int 2) k := bi_lenl' (Nat.le_of_ble_eq_true rfl)

theorem lpower1_ok (g : Gm Γ) (ht : Has Φ n_ltrim trimP) (hr : Has Φ n_rpower rpowP) (hsw : Has Φ n_swhole_power swP) (hss : Has Φ n_sscale sscaleP) (hsp : Has Φ n_spower spowP) (hd : Has Φ n_rdiv rdivP)
    {l l' m : Int} {rs rs' : List R} (h : rs.length ≤ 50) (h2 : lpF1 l rs m = some (l', rs')) : runB Φ Γ 60 Q_lpower B_lpower k [sD l rs, .int m] = .ok (sD l' rs') k := by
  unfold lpF1 at h2
  have r0 := getG_hit (k := k) g.r0
  have r1 := getG_hit (k := k) g.r1
  have sq := getG_hit (k := k) g.sq
  have em := eq_i0 (k := k) (m := m)
  split at h2
  · rename_i hm
    have hm' := decide_eq_true hm
    split at h2
    · rename_i x
      cases h2
      have l1 := len_1 (a := x) (k := k)
      have m0 := ml_0 (a := R0) (k := k)
      exact of_wp [.f (em), .b (hm'), .f (r1), .f (r0), .go, .f (l1), .go, .f (m0), .go] rfl (by kernel_rfl)
    · rename_i x y
      cases h2
      have l2 := len_2 (x := x) (y := y) (k := k)
      have m1 := ml_1 (a := R0) (k := k)
      exact of_wp [.f (em), .b (hm'), .f (r1), .f (r0), .go, .f (l2), .go, .f (m1), .go] rfl (by kernel_rfl)
    · cases h2
  · rename_i hm
    have hm' := decide_eq_false hm
    split at h2
    · cases h2
    · rename_i hn
      have hn' : decide (m < 0) = false := decide_eq_false hn
      split at h2
      case h_2 => cases h2
      rename_i lx a et
      split at h2
      case isFalse => cases h2
      rename_i hc
      simp only [Bool.and_eq_true] at hc
      obtain ⟨⟨c1, c2⟩, c3⟩ := hc
      have ct := fun k => ht.call k ⟨l, rs, rfl, h, rfl⟩
      rw [et] at ct
      have cr := fun k => hr.call k ⟨a, m, rfl, c1, rfl⟩
      have hmul := mul_i (k := k) (mulOk_sm (chkI_sm c2) (chkI_sm c3))
      have l1 := len_1 (a := a) (k := k)
      split at h2
      · rename_i hk
        have hk' : decide (m ≤ 1000) = true := decide_eq_true hk
        split at h2
        case h_2 => cases h2
        rename_i r er
        cases h2
        have em' : ((m.toNat : Nat) : Int) = m := Int.toNat_of_nonneg (by omega)
        have cs := fun k => hsw.call k ⟨a, r, m.toNat, by rw [em'], er, rfl⟩
        exact of_wp [.f (em), .b (hm'), .go, .b (hn'), .f (ct k), .f (l1), .go, .go, .go, .f (cr k), .f (sq), .go, .b (hk'), .go, .f (hmul), .f (cs k)] rfl (by kernel_rfl)
      · rename_i hk
        have hk' : decide (m ≤ 1000) = false := decide_eq_false hk
        split at h2
        case isFalse => cases h2
        rename_i hc
        simp only [Bool.and_eq_true, beq_iff_eq] at hc
        obtain ⟨⟨⟨d1, d2⟩, d3⟩, d4⟩ := hc
        cases h2
        unfold invOk at d2
        simp only [Bool.and_eq_true, decide_eq_true_eq] at d2
        have cd := fun k => hd.call k ⟨R1, a, rfl, by decide, chk_sm d1, by decide, d2.1.2, rfl⟩
        have cs1 := fun k => hss.call k ⟨rdivF R1 a, a, rfl, d2.2, d1, rfl⟩
        rw [d3] at cs1
        have csp := fun k => hsp.call k ⟨.tuple [.int m, .int 1], rfl, rfl⟩
        have cs2 := fun k => hss.call k ⟨rpF a m, R1, rfl, d4, by decide, rfl⟩
        exact of_wp [.f (em), .b (hm'), .go, .b (hn'), .f (ct k), .f (l1), .go, .go, .go, .f (cr k), .f (sq), .go, .b (hk'), .f (l1), .go, .go, .go, .f (hmul), .f (r1), .go, .f (cd k), .f (cs1 k), .f (csp k), .f (cs2 k)] rfl (by kernel_rfl)

theorem lpower_ok (g : Gm Γ) (ht : Has Φ n_ltrim trimP) (hr : Has Φ n_rpower rpowP) (hsw : Has Φ n_swhole_power swP) (hss : Has Φ n_sscale sscaleP) (hsp : Has Φ n_spower spowP) (hd : Has Φ n_rdiv rdivP) (hp : Has Φ n_lpower lpP1) (hi : Has Φ n_linverse linvP)
    {l l' m : Int} {rs rs' : List R} (h : rs.length ≤ 50) (h2 : lpF l rs m = some (l', rs')) : runB Φ Γ 60 Q_lpower B_lpower k [sD l rs, .int m] = .ok (sD l' rs') k := by
  unfold lpF at h2
  split at h2
  · rename_i hm
    split at h2
    case h_2 => cases h2
    rename_i lx a et
    split at h2
    case isFalse => cases h2
    rename_i hv
    have hm0 : decide (m = 0) = false := decide_eq_false (by omega)
    have hm' := decide_eq_true hm
    have ci := fun k => hi.call k ⟨l, lx, rs, a, rfl, h, et, hv, rfl⟩
    have cp := fun k => hp.call k ⟨0 - lx, l', 0 - m, [rdivF R1 a], rs', rfl, by simp, h2, rfl⟩
    have em := eq_i0 (k := k) (m := m)
    exact of_wp [.f (em), .b (hm0), .go, .b (hm'), .f (ci k), .go, .f (cp k)] rfl (by kernel_rfl)
  · exact lpower1_ok g ht hr hsw hss hsp hd h h2
end
end Mine

open PySem PySem.W PySem.Spec PySem.Calls PyProof.Rows
set_option Elab.async false
set_option maxRecDepth 100000
set_option linter.unusedSimpArgs false
set_option linter.unusedVariables false
namespace Mine
section
variable {Φ : PhiT} {Γ : GamT} {k : Nat}
noncomputable def saddP (ds : List D) (d : D) : Prop := ∃ a b : R, ds = [lD [a], lD [b]] ∧ chk a = true ∧ chk b = true ∧ d = lD [raddF a b]
theorem sadd_ok (hm : Has Φ n_radd raddP) {a b : R} (h1 : chk a = true) (h2 : chk b = true) : runB Φ Γ 60 Q_sadd B_sadd k [lD [a], lD [b]] = .ok (lD [raddF a b]) k := by
  have cm := fun k => hm.call k ⟨a, b, rfl, chk_sm h1, chk_sm h2, chk_0 h1, chk_0 h2, rfl⟩
  have l1 := len_1 (a := a) (k := k)
  have l2 := len_1 (a := b) (k := k)
  exact of_wp [.f (l1), .f (l2), .go, .go, .go, .go, .go, .f (cm k)] rfl (by kernel_rfl)

noncomputable def laddP (ds : List D) (d : D) : Prop := ∃ (l1 l2 : Int) (a b : R), ds = [sD l1 [a], sD l2 [b]] ∧ l1 < l2 ∧ chk a = true ∧ d = sD l1 [raddF a R0]
theorem ladd_ok (g : Gm Γ) (hs : Has Φ n_sadd saddP) {l1 l2 : Int} {a b : R} (h1 : l1 < l2) (h2 : chk a = true) : runB Φ Γ 60 Q_ladd B_ladd k [sD l1 [a], sD l2 [b]] = .ok (sD l1 [raddF a R0]) k := by
  have cs := fun k => hs.call k ⟨a, R0, rfl, h2, by decide, rfl⟩
  have e1 : biD .min [.int l1, .int l2] k = .ok (.int l1) k := by rw [bi_min, if_neg (by omega)]
  have e2 : biD .min [.int (l1 + 1), .int (l2 + 1)] k = .ok (.int (l1 + 1)) k := by rw [bi_min, if_neg (by omega)]
  have e3 : binD .Sub (.int (l1 + 1)) (.int l1) k = .ok (.int 1) k := by rw [sub_i, show l1 + 1 - l1 = 1 by omega]
  have e4 : biD .min [.int (l2 - l1), .int 1] k = .ok (.int 1) k := by rw [bi_min]; congr 2; split <;> omega
  have e5 : binD .Sub (.int l1) (.int l1) k = .ok (.int 0) k := by rw [sub_i, show l1 - l1 = 0 by omega]
  have l1 := len_1 (a := a) (k := k)
  have l2 := len_1 (a := b) (k := k)
  have m0 := ml_0 (a := R0) (k := k)
  have m1 := ml_1 (a := R0) (k := k)
  have r0 := getG_hit (k := k) g.r0
  exact of_wp [.go, .go, .f (e1), .go, .go, .f (l1), .go, .go, .go, .f (l2), .go, .f (e2), .f (e3), .go, .go, .f (r0), .go, .f (e5), .go, .f (m0), .go, .go, .go, .f (r0), .go, .go, .f (e4), .f (m1), .go, .go, .go, .f (cs k)] rfl (by kernel_rfl)
end
end Mine

open PySem PySem.W PySem.Spec PySem.Calls PyProof.Rows
set_option Elab.async false
set_option maxRecDepth 100000
set_option linter.unusedSimpArgs false
set_option linter.unusedVariables false
namespace Mine
section
variable {Φ : PhiT} {Γ : GamT} {k : Nat}
theorem bits1 : runB Φ Γ 60 Q_bits_of B_bits_of k [.int 1] = .ok (.int 1) k := by rfl
theorem bits4 : runB Φ Γ 60 Q_bits_of B_bits_of k [.int 4] = .ok (.int 3) k := by rfl
theorem bits9 : runB Φ Γ 60 Q_bits_of B_bits_of k [.int 9] = .ok (.int 4) k := by rfl
noncomputable def sqn (n r : Int) : Bool := (n == 1 && r == 1) || (n == 4 && r == 2) || (n == 9 && r == 3)
theorem sqn_or {n r : Int} (h : sqn n r = true) : (n = 1 ∧ r = 1) ∨ (n = 4 ∧ r = 2) ∨ (n = 9 ∧ r = 3) := by
  unfold sqn at h
  simp only [Bool.or_eq_true, Bool.and_eq_true, beq_iff_eq] at h
  omega
noncomputable def bitsP (ds : List D) (d : D) : Prop := ∃ n r b : Int, ds = [.int n] ∧ sqn n r = true ∧ d = .int b ∧ (n = 1 → b = 1) ∧ (n = 4 → b = 3) ∧ (n = 9 → b = 4)
theorem bits_ok {n r b : Int} (h : sqn n r = true) (e1 : n = 1 → b = 1) (e4 : n = 4 → b = 3) (e9 : n = 9 → b = 4) : runB Φ Γ 60 Q_bits_of B_bits_of k [.int n] = .ok (.int b) k := by
  rcases sqn_or h with ⟨rfl, rfl⟩ | ⟨rfl, rfl⟩ | ⟨rfl, rfl⟩
  · rw [e1 rfl]; exact bits1
  · rw [e4 rfl]; exact bits4
  · rw [e9 rfl]; exact bits9
noncomputable def rootP (ds : List D) (d : D) : Prop := ∃ n r : Int, ds = [.int n, .int 2] ∧ sqn n r = true ∧ d = .int r
theorem root_ok (hb : Has Φ n_bits_of bitsP) {n r : Int} (h : sqn n r = true) : runB Φ Γ 60 Q_root_of B_root_of k [.int n, .int 2] = .ok (.int r) k := by
  rcases sqn_or h with ⟨rfl, rfl⟩ | ⟨rfl, rfl⟩ | ⟨rfl, rfl⟩
  · have c := fun k => hb.call k ⟨1, 1, 1, rfl, h, rfl, fun _ => rfl, fun h => absurd h (by decide), fun h => absurd h (by decide)⟩
    exact of_wp [.f (c k), .go, .go, .go] rfl (by kernel_rfl)
  · have c := fun k => hb.call k ⟨4, 2, 3, rfl, h, rfl, fun h => absurd h (by decide), fun _ => rfl, fun h => absurd h (by decide)⟩
    exact of_wp [.f (c k), .go, .go, .go, .go, .go, .go, .go, .go, .go, .go, .go, .go, .go, .go, .go, .go, .go, .go, .go, .go, .go, .go, .go, .go, .go, .go, .go, .go, .go] rfl (by kernel_rfl)
  · have c := fun k => hb.call k ⟨9, 3, 4, rfl, h, rfl, fun h => absurd h (by decide), fun h => absurd h (by decide), fun _ => rfl⟩
    exact of_wp [.f (c k), .go, .go, .go, .go, .go, .go, .go, .go, .go, .go, .go, .go, .go, .go, .go, .go, .go, .go, .go, .go, .go, .go, .go, .go, .go, .go, .go, .go, .go] rfl (by kernel_rfl)

noncomputable def exrP (ds : List D) (d : D) : Prop := ∃ n r : Int, ds = [rD (n, 1), .int 2] ∧ sqn n r = true ∧ d = rD (r, 1)
theorem exr_ok (hr : Has Φ n_root_of rootP) {n r : Int} (h : sqn n r = true) : runB Φ Γ 60 Q_exact_root B_exact_root k [rD (n, 1), .int 2] = .ok (rD (r, 1)) k := by
  have c1 := fun k => hr.call k ⟨n, r, rfl, h, rfl⟩
  have c2 := fun k => hr.call k ⟨1, 1, rfl, rfl, rfl⟩
  have p1 : binD .Pow (.int r) (.int 2) k = .ok (.int n) k := by
    rcases sqn_or h with ⟨rfl, rfl⟩ | ⟨rfl, rfl⟩ | ⟨rfl, rfl⟩ <;> rfl
  have q1 : cmpD .Eq (.int n) (.int n) k = .ok (.bool true) k := by
    rw [eq_d rfl, eqv_i, beq_self_eq_true]
  exact of_wp [.go, .f (c1 k), .go, .f (c2 k), .f (p1), .go, .f (q1), .go, .go, .go, .go, .go, .go] rfl (by kernel_rfl)
end
end Mine

open PySem PySem.W PySem.Spec PySem.Calls PyProof.Rows
set_option Elab.async false
set_option maxRecDepth 100000
set_option linter.unusedSimpArgs false
set_option linter.unusedVariables false
namespace Mine
noncomputable def s_num : Str := ⟨#[110, 117, 109]⟩
noncomputable def s_sym : Str := ⟨#[115, 121, 109]⟩
noncomputable def s_pow : Str := ⟨#[112, 111, 119]⟩
noncomputable def s_call : Str := ⟨#[99, 97, 108, 108]⟩
noncomputable def s_sqrt : Str := ⟨#[115, 113, 114, 116]⟩
noncomputable def s_sum : Str := ⟨#[115, 117, 109]⟩
noncomputable def s_prod : Str := ⟨#[112, 114, 111, 100]⟩
noncomputable def s_sin : Str := ⟨#[115, 105, 110]⟩
noncomputable def s_tan : Str := ⟨#[116, 97, 110]⟩
noncomputable def s_atan : Str := ⟨#[97, 116, 97, 110]⟩
noncomputable def s_x : Str := ⟨#[120]⟩
noncomputable def s_inf : Str := ⟨#[105, 110, 102]⟩
noncomputable def s_linf : Str := ⟨#[45, 105, 110, 102]⟩
theorem e_num : Str.ofString "num" = s_num := by decide +kernel
theorem e_sym : Str.ofString "sym" = s_sym := by decide +kernel
theorem e_pow : Str.ofString "pow" = s_pow := by decide +kernel
theorem e_call : Str.ofString "call" = s_call := by decide +kernel
theorem e_sqrt : Str.ofString "sqrt" = s_sqrt := by decide +kernel
theorem e_sum : Str.ofString "sum" = s_sum := by decide +kernel
theorem e_prod : Str.ofString "prod" = s_prod := by decide +kernel
theorem e_sin : Str.ofString "sin" = s_sin := by decide +kernel
theorem e_tan : Str.ofString "tan" = s_tan := by decide +kernel
theorem e_atan : Str.ofString "atan" = s_atan := by decide +kernel
theorem e_x : Str.ofString "x" = s_x := by decide +kernel
theorem e_inf : Str.ofString "inf" = s_inf := by decide +kernel
theorem e_linf : Str.ofString "-inf" = s_linf := by decide +kernel
section
variable {Φ : PhiT} {Γ : GamT} {k : Nat}

/-! of_root -/
noncomputable def rt (n : Int) : Int := if n = 1 then 1 else if n = 4 then 2 else 3
noncomputable def rofP (ds : List D) (d : D) : Prop := ∃ (l h n : Int) (rs : List R), ds = [sD l rs, .tuple [.int 1, .int 2]] ∧ rs.length ≤ 50 ∧ trimF l rs = (2 * h, [(n, 1)]) ∧ chkI (2 * h) = true ∧ sqn n (rt n) = true ∧ d = sD h [(rt n, 1)]
theorem rof_ok (g : Gm Γ) (ht : Has Φ n_ltrim trimP) (he : Has Φ n_exact_root exrP) (hr : Has Φ n_rpower rpowP) (hss : Has Φ n_sscale sscaleP) (hsp : Has Φ n_spower spowP) (hd : Has Φ n_rdiv rdivP) {l h n : Int} {rs : List R} (h1 : rs.length ≤ 50) (h2 : trimF l rs = (2 * h, [(n, 1)])) (h3 : chkI (2 * h) = true) (h4 : sqn n (rt n) = true) : runB Φ Γ 60 Q_of_root B_of_root k [sD l rs, .tuple [.int 1, .int 2]] = .ok (sD h [(rt n, 1)]) k := by
  have ct := fun k => ht.call k ⟨l, rs, rfl, h1, rfl⟩
  rw [h2] at ct
  have ce := fun k => he.call k ⟨n, rt n, rfl, h4, rfl⟩
  have w : (chk (rt n, 1) && chk (n, 1) && chk (rdivF R1 (n, 1)) && decide (n ≠ 0) && (rmulF (rdivF R1 (n, 1)) (n, 1) == R1) && (rmulF (rt n, 1) R1 == (rt n, 1)) && decide (0 < n) && rpOk (rt n, 1) 1) = true := by
    rcases sqn_or h4 with ⟨rfl, _⟩ | ⟨rfl, _⟩ | ⟨rfl, _⟩ <;> decide +kernel
  simp only [Bool.and_eq_true, beq_iff_eq, decide_eq_true_eq] at w
  obtain ⟨⟨⟨⟨⟨⟨⟨w1, w2⟩, w3⟩, w4⟩, w5⟩, w6⟩, w7⟩, w8⟩ := w
  have cr := fun k => hr.call k ⟨(rt n, 1), 1, rfl, w8, rfl⟩
  have er : rpF (rt n, 1) 1 = (rt n, 1) := rfl
  rw [er] at cr
  have cd := fun k => hd.call k ⟨R1, (n, 1), rfl, by decide, chk_sm w2, by decide, w4, rfl⟩
  have cs1 := fun k => hss.call k ⟨rdivF R1 (n, 1), (n, 1), rfl, w3, w2, rfl⟩
  rw [w5] at cs1
  have csp := fun k => hsp.call k ⟨.tuple [.int 1, .int 2], rfl, rfl⟩
  have cs2 := fun k => hss.call k ⟨(rt n, 1), R1, rfl, w1, by decide, rfl⟩
  rw [w6] at cs2
  have hn : decide (n ≤ 0) = false := decide_eq_false (by omega)
  have hmul : binD .Mult (.int (2 * h)) (.int 1) k = .ok (.int (2 * h)) k := by
    rw [mul_i (mulOk_sm (chkI_sm h3) (by decide)), Int.mul_one]
  have hmod : binD .Mod (.int (2 * h)) (.int 2) k = .ok (.int 0) k := by
    rw [mod_i (by decide), Int.fmod_eq_emod_of_nonneg _ (by decide), Int.mul_emod_right]
  have hdiv : binD .FloorDiv (.int (2 * h)) (.int 2) k = .ok (.int h) k := by
    rw [div_i ⟨by decide, pyl (by decide)⟩, Int.fdiv_eq_ediv_of_nonneg _ (by decide), Int.mul_ediv_cancel_left _ (by decide)]
  have l1 := len_1 (a := (n, 1)) (k := k)
  have r1 := getG_hit (k := k) g.r1
  exact of_wp [.f (ct k), .f (l1), .go, .go, .go, .f (hmul), .go, .f (hmod), .go, .go, .go, .go, .go, .b (hn), .go, .go, .go, .f (ce k), .go, .go, .go, .go, .go, .go, .go, .f (cr k), .go, .f (hmul), .go, .f (hdiv), .f (r1), .go, .f (cd k), .f (cs1 k), .f (csp k), .f (cs2 k)] rfl (by kernel_rfl)

/-! of_call -/
noncomputable def fnN (c : Nat) : Str := if c = 0 then s_sin else if c = 1 then s_tan else s_atan
theorem in_fn (c : Nat) (k : Nat) : cmpD .In (.str (fnN c)) (.tuple [.str s_sin, .str s_tan, .str s_atan]) k = .ok (.bool true) k := by
  have h1 : (shp (.str s_sin) && shp (.tuple [.str s_sin, .str s_tan, .str s_atan])) = true := by decide +kernel
  have h2 : (shp (.str s_tan) && shp (.tuple [.str s_sin, .str s_tan, .str s_atan])) = true := by decide +kernel
  have h3 : (shp (.str s_atan) && shp (.tuple [.str s_sin, .str s_tan, .str s_atan])) = true := by decide +kernel
  have q1 : ([.str s_sin, .str s_tan, .str s_atan].any fun y => PyData.eqv y (.str s_sin)) = true := by decide +kernel
  have q2 : ([.str s_sin, .str s_tan, .str s_atan].any fun y => PyData.eqv y (.str s_tan)) = true := by decide +kernel
  have q3 : ([.str s_sin, .str s_tan, .str s_atan].any fun y => PyData.eqv y (.str s_atan)) = true := by decide +kernel
  unfold fnN
  split
  · rw [in_d h1, q1]
  · split
    · rw [in_d h2, q2]
    · rw [in_d h3, q3]
noncomputable def ocP (ds : List D) (d : D) : Prop := ∃ (l l' many : Int) (rs rs' : List R) (c : Nat), ds = [.str (fnN c), sD l rs, .int many] ∧ rs.length ≤ 50 ∧ trimF l rs = (l', rs') ∧ rs'.length ≤ 50 ∧ many < l' ∧ 0 ≤ l' ∧ chkI l' = true ∧ d = sD l' (rs'.take (2 * l').toNat)
theorem oc_ok (ht : Has Φ n_ltrim trimP) {l l' many : Int} {rs rs' : List R} {c : Nat} (h1 : rs.length ≤ 50) (h2 : trimF l rs = (l', rs')) (h3 : rs'.length ≤ 50) (h4 : many < l') (h5 : 0 ≤ l') (h6 : chkI l' = true) : runB Φ Γ 60 Q_of_call B_of_call k [.str (fnN c), sD l rs, .int many] = .ok (sD l' (rs'.take (2 * l').toNat)) k := by
  have ct := fun k => ht.call k ⟨l, rs, rfl, h1, rfl⟩
  rw [h2] at ct
  have hm : decide (many < l') = true := decide_eq_true h4
  have hmul := mul_i (k := k) (x := 2) (mulOk_sm (by decide) (chkI_sm h6))
  have hup : uptoD (lD rs') (.int (2 * l')) k = .ok (lD (rs'.take (2 * l').toNat)) k := by
    rw [up_l ⟨by omega, sz (by rw [List.length_map]; omega)⟩, ← List.map_take]
  have hin := in_fn c k
  rw [← e_sin, ← e_tan, ← e_atan] at hin
  exact of_wp [.f (ct k), .go, .b (hm), .f (hin), .go, .go, .f (hmul), .f (hup)] rfl (by kernel_rfl)
end
end Mine

open PySem PySem.W PySem.Spec PySem.Calls PyProof.Rows
set_option Elab.async false
set_option maxRecDepth 100000
set_option linter.unusedSimpArgs false
set_option linter.unusedVariables false
namespace Mine
section
variable {Φ : PhiT} {Γ : GamT} {k : Nat}
theorem q_ss {x y : Str} {b : Bool} (h : (shp (.str x) && shp (.str y)) = true) (e : PyData.eqv (.str x) (.str y) = b) : cmpD .Eq (.str x) (.str y) k = .ok (.bool b) k := by rw [eq_d h, e]
theorem q_fs {c : Nat} : cmpD .Eq (.str (fnN c)) (.str s_sqrt) k = .ok (.bool false) k := by
  unfold fnN
  split
  · exact q_ss (by decide +kernel) (by decide +kernel)
  · split <;> exact q_ss (by decide +kernel) (by decide +kernel)
end

/-- the terms of the laws -/
inductive T where
  | num (n : Int)
  | x
  | pow (b : T) (m : Int)
  | sq (b : T)
  | call (c : Nat) (a : T)
  | two (a b : T)
  | three (a b c : T)
  | sum (a b : T)
noncomputable abbrev numD (n : Int) : D := .tuple [.str s_num, .int n, .int 1]
noncomputable abbrev halfD : D := .tuple [.str s_num, .int 1, .int 2]
noncomputable def enc : T → D
  | .num n => numD n
  | .x => .tuple [.str s_sym, .str s_x]
  | .pow b m => .tuple [.str s_pow, enc b, numD m]
  | .sq b => .tuple [.str s_pow, enc b, halfD]
  | .call c a => .tuple [.str s_call, .str (fnN c), .tuple [enc a]]
  | .two a b => .tuple [.str s_prod, .tuple [enc a, enc b]]
  | .three a b c => .tuple [.str s_prod, .tuple [enc a, enc b, enc c]]
  | .sum a b => .tuple [.str s_sum, .tuple [enc a, enc b]]
noncomputable def T.dep : T → Nat
  | .num _ => 0
  | .x => 0
  | .pow b _ => b.dep + 1
  | .sq b => b.dep + 1
  | .call _ a => a.dep + 1
  | .two a b => max a.dep b.dep + 1
  | .three a b c => max a.dep (max b.dep c.dep) + 1
  | .sum a b => max a.dep b.dep + 1
noncomputable def T.isNum : T → Bool
  | .num _ => true
  | _ => false

theorem ok_fn (c : Nat) : PyData.strOk (fnN c) = true := by
  unfold fnN
  split
  · decide +kernel
  · split <;> decide +kernel
theorem ok_num : PyData.strOk s_num = true := by decide +kernel
theorem ok_sym : PyData.strOk s_sym = true := by decide +kernel
theorem ok_pow : PyData.strOk s_pow = true := by decide +kernel
theorem ok_call : PyData.strOk s_call = true := by decide +kernel
theorem ok_prod : PyData.strOk s_prod = true := by decide +kernel
theorem ok_sum : PyData.strOk s_sum = true := by decide +kernel
theorem ok_x : PyData.strOk s_x = true := by decide +kernel
theorem enc_lay (t : T) : PyData.canLay0 (enc t) = true := by
  induction t with
  | num n => simp only [enc, PyData.canLay0, PyData.canLayAll0, ok_num, Bool.and_true, Bool.true_and]
  | x => simp only [enc, PyData.canLay0, PyData.canLayAll0, ok_sym, ok_x, Bool.and_true, Bool.true_and]
  | pow b m h => simp only [enc, PyData.canLay0, PyData.canLayAll0, ok_num, ok_pow, h, Bool.and_true, Bool.true_and]
  | sq b h => simp only [enc, PyData.canLay0, PyData.canLayAll0, ok_num, ok_pow, h, Bool.and_true, Bool.true_and]
  | call c a h => simp only [enc, PyData.canLay0, PyData.canLayAll0, ok_fn, ok_call, h, Bool.and_true, Bool.true_and]
  | two a b h h2 => simp only [enc, PyData.canLay0, PyData.canLayAll0, ok_prod, h, h2, Bool.and_true, Bool.true_and]
  | three a b c h h2 h3 => simp only [enc, PyData.canLay0, PyData.canLayAll0, ok_prod, h, h2, h3, Bool.and_true, Bool.true_and]
  | sum a b h h2 => simp only [enc, PyData.canLay0, PyData.canLayAll0, ok_sum, h, h2, Bool.and_true, Bool.true_and]
theorem mx {a b n : Nat} (h1 : a ≤ n) (h2 : b ≤ n) : max a b ≤ n := Nat.max_le.mpr ⟨h1, h2⟩
theorem mx1 {a n : Nat} (h : a ≤ 2 * n + 1) : a ≤ 2 * (n + 1) := by omega
theorem mxl {a x y : Nat} (h : a ≤ 2 * x + 1) : a ≤ 2 * max x y + 1 := Nat.le_trans h (Nat.succ_le_succ (Nat.mul_le_mul_left 2 (Nat.le_max_left x y)))
theorem mxr {a x y : Nat} (h : a ≤ 2 * y + 1) : a ≤ 2 * max x y + 1 := Nat.le_trans h (Nat.succ_le_succ (Nat.mul_le_mul_left 2 (Nat.le_max_right x y)))
theorem enc_dep : ∀ t : T, PyData.depth (enc t) ≤ 2 * t.dep + 1
  | .num n => Nat.le_refl _
  | .x => Nat.le_refl _
  | .pow b m => Nat.succ_le_succ (mx (Nat.zero_le _) (mx (mx1 (enc_dep b)) (mx (Nat.succ_le_succ (Nat.zero_le _)) (Nat.zero_le _))))
  | .sq b => Nat.succ_le_succ (mx (Nat.zero_le _) (mx (mx1 (enc_dep b)) (mx (Nat.succ_le_succ (Nat.zero_le _)) (Nat.zero_le _))))
  | .call c a => Nat.succ_le_succ (mx (Nat.zero_le _) (mx (Nat.zero_le _) (mx (Nat.succ_le_succ (mx (enc_dep a) (Nat.zero_le _))) (Nat.zero_le _))))
  | .two a b => Nat.succ_le_succ (mx (Nat.zero_le _) (mx (Nat.succ_le_succ (mx (mxl (enc_dep a)) (mx (mxr (enc_dep b)) (Nat.zero_le _)))) (Nat.zero_le _)))
  | .three a b c => Nat.succ_le_succ (mx (Nat.zero_le _) (mx (Nat.succ_le_succ (mx (mxl (enc_dep a)) (mx (mxr (mxl (enc_dep b))) (mx (mxr (mxr (enc_dep c))) (Nat.zero_le _))))) (Nat.zero_le _)))
  | .sum a b => Nat.succ_le_succ (mx (Nat.zero_le _) (mx (Nat.succ_le_succ (mx (mxl (enc_dep a)) (mx (mxr (enc_dep b)) (Nat.zero_le _)))) (Nat.zero_le _)))
theorem enc_shp {t : T} (h : t.dep ≤ 20) : shp (enc t) = true := by
  have h1 := enc_dep t
  show (PyData.canLay0 (enc t) && decide (PyData.depth (enc t) ≤ 64)) = true
  rw [enc_lay, decide_eq_true (by omega)]
  rfl
end Mine

open PySem PySem.W PySem.Spec PySem.Calls PyProof.Rows
set_option Elab.async false
set_option maxRecDepth 100000
set_option linter.unusedSimpArgs false
set_option linter.unusedVariables false
namespace Mine
noncomputable def laF (A B : Int × List R) : Option (Int × List R) := match A, B with
  | (l1, [a]), (l2, [_]) => if l1 < l2 ∧ chk a = true then some (l1, [raddF a R0]) else none
  | _, _ => none
noncomputable def lmF (A B : Int × List R) : Option (Int × List R) := match A, B with
  | (l1, [a]), (l2, b :: bs) => if bs.length ≤ 50 ∧ mixOk a b = true then some (l1 + l2, [mixF a b]) else none
  | _, _ => none
noncomputable def roF (l : Int) (rs : List R) : Option (Int × List R) := match trimF l rs with
  | (l', [a]) => if rs.length ≤ 50 ∧ a.2 = 1 ∧ l' = 2 * (l' / 2) ∧ chkI l' = true ∧ sqn a.1 (rt a.1) = true then some (l' / 2, [(rt a.1, 1)]) else none
  | _ => none
noncomputable def ocF (many l : Int) (rs : List R) : Option (Int × List R) := match trimF l rs with
  | (l', rs') => if rs.length ≤ 50 ∧ rs'.length ≤ 50 ∧ many < l' ∧ 0 ≤ l' ∧ chkI l' = true then some (l', rs'.take (2 * l').toNat) else none
/-- what of_term gives -/
noncomputable def mono (many : Int) (rs0 : List R) : T → Option (Int × List R)
  | .num n => if many = 1 then some (0, [(n, 1)]) else none
  | .x => if many ≤ rs0.length ∧ -1000 ≤ many ∧ rs0.length ≤ 50 then some (0, rs0) else none
  | .pow b m => match mono many rs0 b with
    | some (l, rs) => if rs.length ≤ 50 then lpF l rs m else none
    | none => none
  | .sq b => if b.isNum = true then none else match mono many rs0 b with
    | some (l, rs) => roF l rs
    | none => none
  | .call _ a => match mono many rs0 a with
    | some (l, rs) => ocF many l rs
    | none => none
  | .two a b => match mono many rs0 a, mono many rs0 b with
    | some A, some B => if many = 1 then (match lmF (0, [R1]) A with
      | some C => lmF C B
      | none => none) else none
    | _, _ => none
  | .three a b c => match mono many rs0 a, mono many rs0 b, mono many rs0 c with
    | some A, some B, some C => if many = 1 then (match lmF (0, [R1]) A with
      | some E => (match lmF E B with
        | some F => lmF F C
        | none => none)
      | none => none) else none
    | _, _, _ => none
  | .sum a b => match mono many rs0 a, mono many rs0 b with
    | some A, some B => laF A B
    | _, _ => none

noncomputable abbrev ltD (rs0 : List R) : D := .tuple [.str s_x, sD 0 rs0]
noncomputable def termP (n : Nat) (ds : List D) (d : D) : Prop := ∃ (t : T) (many : Int) (rs0 : List R) (l : Int) (rs : List R), ds = [enc t, .int many, ltD rs0] ∧ t.dep ≤ n ∧ mono many rs0 t = some (l, rs) ∧ d = sD l rs
noncomputable def powP (n : Nat) (ds : List D) (d : D) : Prop := ∃ (b : T) (e : D) (many : Int) (rs0 : List R) (l : Int) (rs : List R), ds = [enc b, e, .int many, ltD rs0] ∧ b.dep ≤ n ∧ d = sD l rs ∧ ((∃ m, e = numD m ∧ mono many rs0 (.pow b m) = some (l, rs)) ∨ (e = halfD ∧ mono many rs0 (.sq b) = some (l, rs)))

section
variable {Φ : PhiT} {Γ : GamT} {k : Nat}

theorem eqv_ne {x y : D} {xs ys : List D} (h : PyData.eqv x y = false) : PyData.eqv (.tuple (x :: xs)) (.tuple (y :: ys)) = false := by
  show (PyData.eqv x y && PyData.eqvAll xs ys) = false
  rw [h]; rfl
theorem not_num {b : T} (h : b.isNum = false) : PyData.eqv (enc b) (.tuple [.str s_num, .int 0, .int 1]) = false := by
  cases b with
  | num n => cases h
  | x => exact eqv_ne (by decide +kernel)
  | pow b m => exact eqv_ne (by decide +kernel)
  | sq b => exact eqv_ne (by decide +kernel)
  | call c a => exact eqv_ne (by decide +kernel)
  | two a b => exact eqv_ne (by decide +kernel)
  | three a b c => exact eqv_ne (by decide +kernel)
  | sum a b => exact eqv_ne (by decide +kernel)
theorem num0_shp : shp (.tuple [.str s_num, .int 0, .int 1]) = true := by decide +kernel

theorem opow_ok {n : Nat} (hn : n ≤ 20) (ht : Has Φ n_of_term (termP n)) (hp : Has Φ n_lpower lpP) (hr : Has Φ n_of_root rofP) {ds : List D} {d : D} (h : powP n ds d) : runB Φ Γ 60 Q_of_power B_of_power k ds = .ok d k := by
  obtain ⟨b, e, many, rs0, l, rs, rfl, hb, rfl, h⟩ := h
  have hs := enc_shp (t := b) (by omega)
  have ceq : cmpD .Eq (enc b) (.tuple [.str s_num, .int 0, .int 1]) k = .ok (.bool (PyData.eqv (enc b) (.tuple [.str s_num, .int 0, .int 1]))) k := eq_d (by rw [hs, num0_shp]; rfl)
  rw [← e_num] at ceq
  rcases h with ⟨m, rfl, h⟩ | ⟨rfl, h⟩
  · unfold mono at h
    split at h
    case h_2 => cases h
    rename_i l1 rs1 e1
    split at h
    case isFalse => cases h
    rename_i h50
    have ct := fun k => ht.call k ⟨b, many, rs0, l1, rs1, rfl, hb, e1, rfl⟩
    have cp := fun k => hp.call k ⟨l1, l, m, rs1, rs, rfl, h50, h, rfl⟩
    cases hc : PyData.eqv (enc b) (.tuple [.str (Str.ofString "num"), .int 0, .int 1]) with
    | true =>
      exact of_wp [.go, .go, .go, .f (ceq), .b (hc), .go, .go, .go, .go, .f (ct k), .go, .go, .go, .go, .f (cp k)] rfl (by kernel_rfl)
    | false =>
      exact of_wp [.go, .go, .go, .f (ceq), .b (hc), .go, .f (ct k), .go, .go, .go, .go, .f (cp k)] rfl (by kernel_rfl)
  · unfold mono at h
    split at h
    case isTrue => cases h
    rename_i hnn
    have hc := not_num (b := b) (by simpa using hnn)
    rw [← e_num] at hc
    split at h
    case h_2 => cases h
    rename_i l1 rs1 e1
    unfold roF at h
    split at h
    case h_2 => cases h
    rename_i l2 a e2
    split at h
    case isFalse => cases h
    rename_i h5
    obtain ⟨h50, ha, hl, hl2, hq⟩ := h5
    cases h
    have ct := fun k => ht.call k ⟨b, many, rs0, l1, rs1, rfl, hb, e1, rfl⟩
    have cr := fun k => hr.call k ⟨l1, l2 / 2, a.1, rs1, rfl, h50, by rw [← hl, e2, ← ha], by rw [← hl]; exact hl2, hq, rfl⟩
    exact of_wp [.go, .go, .go, .f (ceq), .b (hc), .go, .f (ct k), .go, .go, .go, .go, .go, .f (cr k)] rfl (by kernel_rfl)

noncomputable def sumP (ds : List D) (d : D) : Prop := ∃ (l1 l2 : Int) (a b : R) (m : D), ds = [.list [sD l1 [a], sD l2 [b]], m] ∧ l1 < l2 ∧ chk a = true ∧ d = sD l1 [raddF a R0]
theorem osum_ok (hl : Has Φ n_ladd laddP) {ds : List D} {d : D} (h : sumP ds d) : runB Φ Γ 60 Q_of_sum B_of_sum k ds = .ok d k := by
  obtain ⟨l1, l2, a, b, m, rfl, h1, h2, rfl⟩ := h
  have cl := fun k => hl.call k ⟨l1, l2, a, b, rfl, h1, h2, rfl⟩
  exact of_wp [.go, .go, .go, .go, .go, .go, .go, .f (cl k), .go] rfl (by kernel_rfl)
end
end Mine

open PySem PySem.W PySem.Spec PySem.Calls PyProof.Rows
set_option Elab.async false
set_option maxRecDepth 100000
set_option linter.unusedSimpArgs false
set_option linter.unusedVariables false
namespace Mine
section
variable {Φ : PhiT} {Γ : GamT} {k : Nat}
theorem lm_call (hm : Has Φ n_lmul lmulP) {A B C : Int × List R} (h : lmF A B = some C) (k : Nat) : callE (Φ n_lmul) (.ok [sD A.1 A.2, sD B.1 B.2] k) = .ok (sD C.1 C.2) k := by
  unfold lmF at h
  split at h
  case h_2 => cases h
  rename_i l1 a l2 b bs
  split at h
  case isFalse => cases h
  rename_i hh
  cases h
  exact hm.call k ⟨l1, l2, a, b, bs, rfl, by omega, hh.2, rfl⟩
theorem la_call (hm : Has Φ n_of_sum sumP) {A B C : Int × List R} {m : D} (h : laF A B = some C) (k : Nat) : callE (Φ n_of_sum) (.ok [.list [sD A.1 A.2, sD B.1 B.2], m] k) = .ok (sD C.1 C.2) k := by
  unfold laF at h
  split at h
  case h_2 => cases h
  rename_i l1 a l2 b
  split at h
  case isFalse => cases h
  rename_i hh
  cases h
  exact hm.call k ⟨l1, l2, a, b, m, rfl, hh.1, hh.2, rfl⟩
theorem oc_call (hc : Has Φ n_of_call ocP) {l many : Int} {rs : List R} {C : Int × List R} {c : Nat} (h : ocF many l rs = some C) (k : Nat) : callE (Φ n_of_call) (.ok [.str (fnN c), sD l rs, .int many] k) = .ok (sD C.1 C.2) k := by
  unfold ocF at h
  split at h
  rename_i l' rs' et
  split at h
  case isFalse => cases h
  rename_i hh
  cases h
  obtain ⟨h1, h2, h3, h4, h5⟩ := hh
  exact hc.call k ⟨l, l', many, rs, rs', c, rfl, h1, et, h2, h3, h4, h5, rfl⟩

theorem term_num (hl : Has Φ n_lplain lplP) {n : Int} {d : D} : runB Φ Γ 60 Q_of_term B_of_term k [numD n, .int 1, d] = .ok (sD 0 [(n, 1)]) k := by
  have cl := fun k => hl.call k ⟨(n, 1), rfl, rfl⟩
  exact of_wp [.go, .go, .go, .go, .go, .f (cl k)] rfl (by kernel_rfl)
theorem term_x (g : Gm Γ) {many : Int} {rs : List R} (h1 : many ≤ rs.length) (h2 : -1000 ≤ many) (h3 : rs.length ≤ 50) : runB Φ Γ 60 Q_of_term B_of_term k [enc .x, .int many, ltD rs] = .ok (sD 0 rs) k := by
  have e1 : biD .len [lD rs] k = .ok (.int (rs.length : Nat)) k := by
    rw [bi_lenl' (by rw [List.length_map]; omega), List.length_map]
  have e2 : binD .Mult (.list [rD R0]) (.int (many - (rs.length : Nat))) k = .ok (.list []) k := by
    have et : (many - (rs.length : Nat)).toNat = 0 := by omega
    rw [mul_l ⟨by omega, by omega, by rw [et]; exact sz (by simp)⟩, et]
    rfl
  have e3 : binD .Add (lD rs) (.list []) k = .ok (lD rs) k := by
    rw [add_l (sz (by simp; omega)), List.append_nil]
  have r0 := getG_hit (k := k) g.r0
  exact of_wp [.go, .go, .go, .go, .go, .go, .go, .go, .go, .go, .go, .go, .go, .go, .f (r0), .go, .go, .f (e1), .go, .f (e2), .f (e3)] rfl (by kernel_rfl)

theorem oterm0_ok (g : Gm Γ) (hl : Has Φ n_lplain lplP) {ds : List D} {d : D} (h : termP 0 ds d) : runB Φ Γ 60 Q_of_term B_of_term k ds = .ok d k := by
  obtain ⟨t, many, rs0, l, rs, rfl, hd, hm, rfl⟩ := h
  cases t with
  | num n =>
    unfold mono at hm
    split at hm
    case isFalse => cases hm
    rename_i h1
    cases hm
    subst h1
    exact term_num hl
  | x =>
    unfold mono at hm
    split at hm
    case isFalse => cases hm
    rename_i h1
    cases hm
    exact term_x g h1.1 h1.2.1 h1.2.2
  | pow b m => exact absurd hd (Nat.not_succ_le_zero _)
  | sq b => exact absurd hd (Nat.not_succ_le_zero _)
  | call c a => exact absurd hd (Nat.not_succ_le_zero _)
  | two a b => exact absurd hd (Nat.not_succ_le_zero _)
  | three a b c => exact absurd hd (Nat.not_succ_le_zero _)
  | sum a b => exact absurd hd (Nat.not_succ_le_zero _)

theorem oterm_ok {n : Nat} (g : Gm Γ) (hl : Has Φ n_lplain lplP) (hp : Has Φ n_of_power (powP n)) (hc : Has Φ n_of_call ocP) (hs : Has Φ n_of_sum sumP) (hlm : Has Φ n_lmul lmulP) (ht : Has Φ n_of_term (termP n)) {ds : List D} {d : D} (h : termP (n + 1) ds d) : runB Φ Γ 60 Q_of_term B_of_term k ds = .ok d k := by
  obtain ⟨t, many, rs0, l, rs, rfl, hd, hm, rfl⟩ := h
  cases t with
  | num n =>
    unfold mono at hm
    split at hm
    case isFalse => cases hm
    rename_i h1
    cases hm
    subst h1
    exact term_num hl
  | x =>
    unfold mono at hm
    split at hm
    case isFalse => cases hm
    rename_i h1
    cases hm
    exact term_x g h1.1 h1.2.1 h1.2.2
  | pow b m =>
    have cp := fun k => hp.call k ⟨b, numD m, many, rs0, l, rs, rfl, Nat.le_of_succ_le_succ hd, rfl, .inl ⟨m, rfl, hm⟩⟩
    change runB Φ Γ 60 Q_of_term B_of_term k [.tuple [.str s_pow, enc b, numD m], .int many, ltD rs0] = _
    exact of_wp [.go, .go, .go, .go, .go, .go, .go, .go, .go, .go, .go, .f (cp k)] rfl (by kernel_rfl)
  | sq b =>
    have cp := fun k => hp.call k ⟨b, halfD, many, rs0, l, rs, rfl, Nat.le_of_succ_le_succ hd, rfl, .inr ⟨rfl, hm⟩⟩
    change runB Φ Γ 60 Q_of_term B_of_term k [.tuple [.str s_pow, enc b, halfD], .int many, ltD rs0] = _
    exact of_wp [.go, .go, .go, .go, .go, .go, .go, .go, .go, .go, .go, .f (cp k)] rfl (by kernel_rfl)
  | call c a =>
    unfold mono at hm
    split at hm
    case h_2 => cases hm
    rename_i l1 rs1 e1
    have ct := fun k => ht.call k ⟨a, many, rs0, l1, rs1, rfl, Nat.le_of_succ_le_succ hd, e1, rfl⟩
    have cc := fun k => oc_call hc (c := c) hm k
    have qf := q_fs (k := k) (c := c)
    rw [← e_sqrt] at qf
    change runB Φ Γ 60 Q_of_term B_of_term k [.tuple [.str s_call, .str (fnN c), .tuple [enc a]], .int many, ltD rs0] = _
    exact of_wp [.go, .go, .go, .go, .go, .go, .go, .go, .go, .go, .go, .go, .go, .f (qf), .go, .go, .go, .go, .go, .go, .go, .go, .go, .go, .go, .go, .go, .f (ct k), .f (cc k)] rfl (by kernel_rfl)
  | two a b =>
    unfold mono at hm
    split at hm
    case h_2 => cases hm
    rename_i A B eA eB
    split at hm
    case isFalse => cases hm
    rename_i h1
    subst h1
    split at hm
    case h_2 => cases hm
    rename_i C eC
    have hd' : max a.dep b.dep ≤ n := Nat.le_of_succ_le_succ hd
    have ca := fun k => ht.call k ⟨a, 1, rs0, A.1, A.2, rfl, by omega, eA, rfl⟩
    have cb := fun k => ht.call k ⟨b, 1, rs0, B.1, B.2, rfl, by omega, eB, rfl⟩
    have cl := fun k => hl.call k ⟨R1, rfl, rfl⟩
    have m1 := fun k => lm_call hlm eC k
    have m2 := fun k => lm_call hlm hm k
    have r1 := getG_hit (k := k) g.r1
    change runB Φ Γ 60 Q_of_term B_of_term k [.tuple [.str s_prod, .tuple [enc a, enc b]], .int 1, ltD rs0] = _
    exact of_wp [.go, .go, .go, .go, .go, .go, .go, .go, .go, .go, .go, .go, .go, .go, .go, .go, .go, .go, .go, .go, .go, .go, .go, .f (ca k), .f (cb k), .go, .go, .go, .f (r1), .f (cl k), .go, .go, .f (m1 k), .go, .f (m2 k), .go] rfl (by kernel_rfl)
  | three a b c =>
    unfold mono at hm
    split at hm
    case h_2 => cases hm
    rename_i A B C' eA eB eC'
    split at hm
    case isFalse => cases hm
    rename_i h1
    subst h1
    split at hm
    case h_2 => cases hm
    rename_i C eC
    split at hm
    case h_2 => cases hm
    rename_i F eF
    have hd' : max a.dep (max b.dep c.dep) ≤ n := Nat.le_of_succ_le_succ hd
    have ca := fun k => ht.call k ⟨a, 1, rs0, A.1, A.2, rfl, by omega, eA, rfl⟩
    have cb := fun k => ht.call k ⟨b, 1, rs0, B.1, B.2, rfl, by omega, eB, rfl⟩
    have cc := fun k => ht.call k ⟨c, 1, rs0, C'.1, C'.2, rfl, by omega, eC', rfl⟩
    have cl := fun k => hl.call k ⟨R1, rfl, rfl⟩
    have m1 := fun k => lm_call hlm eC k
    have m2 := fun k => lm_call hlm eF k
    have m3 := fun k => lm_call hlm hm k
    have r1 := getG_hit (k := k) g.r1
    change runB Φ Γ 60 Q_of_term B_of_term k [.tuple [.str s_prod, .tuple [enc a, enc b, enc c]], .int 1, ltD rs0] = _
    exact of_wp [.go, .go, .go, .go, .go, .go, .go, .go, .go, .go, .go, .go, .go, .go, .go, .go, .go, .go, .go, .go, .go, .go, .go, .f (ca k), .f (cb k), .f (cc k), .go, .go, .go, .f (r1), .f (cl k), .go, .go, .f (m1 k), .go, .f (m2 k), .go, .f (m3 k), .go] rfl (by kernel_rfl)
  | sum a b =>
    unfold mono at hm
    split at hm
    case h_2 => cases hm
    rename_i A B eA eB
    have hd' : max a.dep b.dep ≤ n := Nat.le_of_succ_le_succ hd
    have ca := fun k => ht.call k ⟨a, many, rs0, A.1, A.2, rfl, by omega, eA, rfl⟩
    have cb := fun k => ht.call k ⟨b, many, rs0, B.1, B.2, rfl, by omega, eB, rfl⟩
    have cs := fun k => la_call (m := .int many) hs hm k
    change runB Φ Γ 60 Q_of_term B_of_term k [.tuple [.str s_sum, .tuple [enc a, enc b]], .int many, ltD rs0] = _
    exact of_wp [.go, .go, .go, .go, .go, .go, .go, .go, .go, .go, .go, .go, .go, .go, .go, .go, .go, .go, .go, .go, .go, .go, .go, .f (ca k), .f (cb k), .go, .go, .go, .f (cs k)] rfl (by kernel_rfl)
end
end Mine

open PySem PySem.W PySem.Spec PySem.Calls PyProof.Rows
set_option Elab.async false
set_option maxRecDepth 100000
set_option linter.unusedSimpArgs false
set_option linter.unusedVariables false
namespace Mine
structure Gn (Γ : GamT) : Prop extends Gm Γ where
  far : Γ 6898060 = some (.str s_inf)
  low : Γ 7065496 = some (.str s_linf)
  tri : Γ 113571582632 = some (.tuple [.int 1, .int 5, .int 7, .int 11, .int 19, .int 35, .int 67])
  lx : Γ 17093935295678 = some (enc .x)

noncomputable def fbF (l : Int) (a : R) : D := if 0 < l then rD R0 else if l = 0 then rD a else .str (if 0 < a.1 then s_inf else s_linf)
/-- what limit gives -/
noncomputable def limF (side : Int) (t : T) : Option D := match mono 1 [R0, (side, 1)] t with
  | some (l, rs) => if rs.length ≤ 50 then (match trimF l rs with
    | (l', a :: rs') => if rs'.length ≤ 40 then some (fbF l' a) else none
    | _ => none) else none
  | none => none
theorem trim_id {l l' : Int} {rs rs' : List R} {a : R} : trimF l rs = (l', a :: rs') → trimF l' (a :: rs') = (l', a :: rs') := by
  induction rs generalizing l with
  | nil => intro h; cases h
  | cons b bs ih =>
    intro h
    unfold trimF at h
    split at h
    · exact ih h
    · rename_i hb
      cases h
      unfold trimF
      rw [if_neg hb]
section
variable {Φ : PhiT} {Γ : GamT} {k : Nat}
noncomputable def fbP (ds : List D) (d : D) : Prop := ∃ (l : Int) (a : R) (rs : List R), ds = [sD l (a :: rs), .int 1] ∧ rs.length ≤ 40 ∧ trimF l (a :: rs) = (l, a :: rs) ∧ d = fbF l a
theorem fb_ok (g : Gn Γ) (ht : Has Φ n_ltrim trimP) {ds : List D} {d : D} (h : fbP ds d) : runB Φ Γ 60 Q_from_begin B_from_begin k ds = .ok d k := by
  obtain ⟨l, a, rs, rfl, h1, h2, rfl⟩ := h
  have ct := fun k => ht.call k ⟨l, a :: rs, rfl, by rw [List.length_cons]; omega, rfl⟩
  rw [h2] at ct
  have e1 : biD .len [lD (a :: rs)] k = .ok (.int (rs.length + 1 : Nat)) k := by
    rw [bi_lenl' (by rw [List.length_map, List.length_cons]; omega), List.length_map, List.length_cons]
  have e2 := eq_i0 (k := k) (m := (rs.length + 1 : Nat))
  have e3 := eq_i0 (k := k) (m := l)
  have hz : decide (((rs.length + 1 : Nat) : Int) = 0) = false := decide_eq_false (by omega)
  have r0 := getG_hit (k := k) g.r0
  have rf := getG_hit (k := k) g.far
  have rl := getG_hit (k := k) g.low
  unfold fbF
  by_cases hl : 0 < l
  · have hl' := decide_eq_true hl
    rw [if_pos hl]
    exact of_wp [.f (ct k), .f (e1), .f (e2), .go, .go, .b (hl'), .go, .f (r0)] rfl (by kernel_rfl)
  · have hl' := decide_eq_false hl
    rw [if_neg hl]
    by_cases h0 : l = 0
    · have h0' := decide_eq_true h0
      rw [if_pos h0]
      exact of_wp [.f (ct k), .f (e1), .f (e2), .go, .go, .b (hl'), .go, .f (e3), .b (h0'), .go] rfl (by kernel_rfl)
    · have h0' := decide_eq_false h0
      rw [if_neg h0]
      have hm := mod_i (k := k) (x := l) (y := 2) (by decide)
      have hq : cmpD .Eq (.int (l.fmod 2)) (.int 1) k = .ok (.bool (l.fmod 2 == 1)) k := by rw [eq_d rfl, eqv_i]
      have hqf : ∀ b : Bool, cmpD .NotEq (.bool b) (.bool false) k = .ok (.bool b) k := fun b => by
        rw [ne_d rfl]
        cases b <;> rfl
      by_cases ha : 0 < a.1
      · have ha' := decide_eq_true ha
        rw [if_pos ha]
        cases ho : (l.fmod 2 == 1) with
        | true => exact of_wp [.f (ct k), .f (e1), .f (e2), .go, .go, .b (hl'), .go, .f (e3), .b (h0'), .f (hm), .f (hq), .b (ho), .go, .go, .go, .go, .go, .go, .b (ho), .go, .f (hqf (decide (0 < a.fst))), .b (ha'), .f (rf)] rfl (by kernel_rfl)
        | false => exact of_wp [.f (ct k), .f (e1), .f (e2), .go, .go, .b (hl'), .go, .f (e3), .b (h0'), .f (hm), .f (hq), .b (ho), .go, .go, .go, .go, .b (ho), .f (hqf (decide (0 < a.fst))), .b (ha'), .f (rf)] rfl (by kernel_rfl)
      · have ha' := decide_eq_false ha
        rw [if_neg ha]
        cases ho : (l.fmod 2 == 1) with
        | true => exact of_wp [.f (ct k), .f (e1), .f (e2), .go, .go, .b (hl'), .go, .f (e3), .b (h0'), .f (hm), .f (hq), .b (ho), .go, .go, .go, .go, .go, .go, .b (ho), .go, .f (hqf (decide (0 < a.fst))), .b (ha'), .f (rl)] rfl (by kernel_rfl)
        | false => exact of_wp [.f (ct k), .f (e1), .f (e2), .go, .go, .b (hl'), .go, .f (e3), .b (h0'), .f (hm), .f (hq), .b (ho), .go, .go, .go, .go, .b (ho), .f (hqf (decide (0 < a.fst))), .b (ha'), .f (rl)] rfl (by kernel_rfl)

noncomputable def bsP (n : Nat) (ds : List D) (d : D) : Prop := ∃ (t : T) (rs0 : List R) (l l' : Int) (rs rs' : List R) (a : R), ds = [enc t, ltD rs0] ∧ t.dep ≤ n ∧ mono 1 rs0 t = some (l, rs) ∧ rs.length ≤ 50 ∧ trimF l rs = (l', a :: rs') ∧ rs'.length ≤ 40 ∧ d = sD l' (a :: rs')
theorem bs_ok {n : Nat} (g : Gn Γ) (ht : Has Φ n_ltrim trimP) (ho : Has Φ n_of_term (termP n)) {ds : List D} {d : D} (h : bsP n ds d) : runB Φ Γ 60 Q_begun_series B_begun_series k ds = .ok d k := by
  obtain ⟨t, rs0, l, l', rs, rs', a, rfl, h1, h2, h3, h4, h5, rfl⟩ := h
  have ct := fun k => ht.call k ⟨l, rs, rfl, h3, rfl⟩
  rw [h4] at ct
  have co := fun k => ho.call k ⟨t, 1, rs0, l, rs, rfl, h1, h2, rfl⟩
  have e1 : biD .len [lD (a :: rs')] k = .ok (.int (rs'.length + 1 : Nat)) k := by
    rw [bi_lenl' (by rw [List.length_map, List.length_cons]; omega), List.length_map, List.length_cons]
  have hz : decide ((0 : Int) < ((rs'.length + 1 : Nat) : Int)) = true := decide_eq_true (by omega)
  have gt := getG_hit (k := k) g.tri
  exact of_wp [.f (gt), .go, .go, .f (co k), .f (ct k), .go, .f (e1), .go, .b (hz), .go] rfl (by kernel_rfl)

noncomputable def lnP (n : Nat) (ds : List D) (d : D) : Prop := ∃ (t : T) (side : Int), ds = [enc t, .str s_x, rD R0, .int side] ∧ t.dep ≤ n ∧ (side = 1 ∨ side = -1) ∧ limF side t = some d
theorem ln_ok {n : Nat} (g : Gn Γ) (hb : Has Φ n_begun_series (bsP n)) (hf : Has Φ n_from_begin fbP) {ds : List D} {d : D} (h : lnP n ds d) : runB Φ Γ 60 Q_limit_near B_limit_near k ds = .ok d k := by
  obtain ⟨t, side, rfl, h1, h2, h3⟩ := h
  unfold limF at h3
  split at h3
  case h_2 => cases h3
  rename_i l rs e1
  split at h3
  case isFalse => cases h3
  rename_i h50
  split at h3
  case h_2 => cases h3
  rename_i l' a rs' e2
  split at h3
  case isFalse => cases h3
  rename_i h40
  cases h3
  have cb := fun k => hb.call k ⟨t, [R0, (side, 1)], l, l', rs, rs', a, rfl, h1, e1, h50, e2, h40, rfl⟩
  have cf := fun k => hf.call k ⟨l', a, rs', rfl, h40, trim_id e2, rfl⟩
  have r1 := getG_hit (k := k) g.r1
  rcases h2 with rfl | rfl
  · exact of_wp [.go, .go, .go, .go, .f (r1), .f (cb k), .f (cf k)] rfl (by kernel_rfl)
  · exact of_wp [.go, .go, .go, .go, .f (cb k), .f (cf k)] rfl (by kernel_rfl)

theorem lim_ok {n : Nat} (g : Gn Γ) (hb : Has Φ n_limit_near (lnP n)) {ds : List D} {d : D} (h : lnP n ds d) : runB Φ Γ 60 Q_limit B_limit k ds = .ok d k := by
  have c := fun k => hb.call k h
  obtain ⟨t, side, rfl, h1, h2, h3⟩ := h
  have rf := getG_hit (k := k) g.far
  have rl := getG_hit (k := k) g.low
  exact of_wp [.f (rf), .go, .go, .f (rl), .go, .go, .go, .f (c k)] rfl (by kernel_rfl)

noncomputable def tlP (n : Nat) (ds : List D) (d : D) : Prop := ∃ (t : T) (side : Int), ds = [enc t, .int side] ∧ t.dep ≤ n ∧ (side = 1 ∨ side = -1) ∧ limF side t = some d
theorem told_ok {n : Nat} (hb : Has Φ n_limit (lnP n)) {ds : List D} {d : D} (h : tlP n ds d) : runB Φ Γ 60 Q_law_told B_law_told k ds = .ok d k := by
  obtain ⟨t, side, rfl, h1, h2, h3⟩ := h
  have c := fun k => hb.call k ⟨t, side, rfl, h1, h2, h3⟩
  exact of_wp [.f (c k)] rfl (by kernel_rfl)

noncomputable def lpwP (ds : List D) (d : D) : Prop := ∃ (b : T) (m : Int), ds = [enc b, .int m] ∧ d = enc (.pow b m)
theorem lpw_ok {ds : List D} {d : D} (h : lpwP ds d) : runB Φ Γ 60 Q_law_power B_law_power k ds = .ok d k := by
  obtain ⟨b, m, rfl, rfl⟩ := h
  exact of_wp [] rfl (by kernel_rfl)
noncomputable def part (n m : Int) : T := .two (.num n) (.pow .x m)
noncomputable def lptP (ds : List D) (d : D) : Prop := ∃ (n m : Int), ds = [.int n, .int m] ∧ d = enc (part n m)
theorem lpt_ok (g : Gn Γ) (hp : Has Φ n_law_power lpwP) {ds : List D} {d : D} (h : lptP ds d) : runB Φ Γ 60 Q_law_part B_law_part k ds = .ok d k := by
  obtain ⟨n, m, rfl, rfl⟩ := h
  have c := fun k => hp.call k ⟨.x, m, rfl, rfl⟩
  have lx := getG_hit (k := k) g.lx
  exact of_wp [.f (lx), .f (c k)] rfl (by kernel_rfl)

noncomputable def dueF (a : R) (gap side : Int) : D := if 0 < gap then rD R0 else if gap < 0 then .str (if (decide (0 < a.1)) == (decide (0 < side) || (gap.fmod 2 == 0)) then s_inf else s_linf) else rD a
noncomputable def dueP (ds : List D) (d : D) : Prop := ∃ (a : R) (gap side : Int), ds = [rD a, .int gap, .int side] ∧ d = dueF a gap side
theorem due_ok {ds : List D} {d : D} (h : dueP ds d) : runB Φ Γ 60 Q_law_due B_law_due k ds = .ok d k := by
  obtain ⟨a, gap, side, rfl, rfl⟩ := h
  unfold dueF
  by_cases h0 : 0 < gap
  · have h0' := decide_eq_true h0
    rw [if_pos h0]
    exact of_wp [.go, .b (h0')] rfl (by kernel_rfl)
  · have h0' := decide_eq_false h0
    rw [if_neg h0]
    have hm := mod_i (k := k) (x := gap) (y := 2) (by decide)
    have hq : cmpD .Eq (.int (gap.fmod 2)) (.int 0) k = .ok (.bool (gap.fmod 2 == 0)) k := by rw [eq_d rfl, eqv_i]
    have hbb : ∀ b c : Bool, cmpD .Eq (.bool b) (.bool c) k = .ok (.bool (b == c)) k := fun b c => by
      rw [eq_d rfl]; rfl
    by_cases hn : gap < 0
    · have hn' := decide_eq_true hn
      rw [if_pos hn]
      by_cases hs : 0 < side
      · have hs' := decide_eq_true hs
        rw [hs', Bool.true_or]
        cases hu : (decide (0 < a.1) == true) with
        | true =>
          rw [if_pos rfl]
          exact of_wp [.go, .b (h0'), .go, .go, .go, .b (hs'), .f (hbb (decide (0 < a.fst)) true), .go, .b (hn'), .b (hu)] rfl (by kernel_rfl)
        | false =>
          rw [if_neg (by decide)]
          exact of_wp [.go, .b (h0'), .go, .go, .go, .b (hs'), .f (hbb (decide (0 < a.fst)) true), .go, .b (hn'), .b (hu)] rfl (by kernel_rfl)
      · have hs' := decide_eq_false hs
        rw [hs', Bool.false_or]
        cases hu : (decide (0 < a.1) == (gap.fmod 2 == 0)) with
        | true =>
          rw [if_pos rfl]
          exact of_wp [.go, .b (h0'), .go, .go, .go, .b (hs'), .f (hm), .f (hq), .f (hbb (decide (0 < a.fst)) (gap.fmod 2 == 0)), .go, .b (hn'), .b (hu)] rfl (by kernel_rfl)
        | false =>
          rw [if_neg (by decide)]
          exact of_wp [.go, .b (h0'), .go, .go, .go, .b (hs'), .f (hm), .f (hq), .f (hbb (decide (0 < a.fst)) (gap.fmod 2 == 0)), .go, .b (hn'), .b (hu)] rfl (by kernel_rfl)
    · have hn' := decide_eq_false hn
      rw [if_neg hn]
      by_cases hs : 0 < side
      · have hs' := decide_eq_true hs
        exact of_wp [.go, .b (h0'), .go, .go, .go, .b (hs'), .f (hbb (decide (0 < a.fst)) true), .go, .b (hn')] rfl (by kernel_rfl)
      · have hs' := decide_eq_false hs
        exact of_wp [.go, .b (h0'), .go, .go, .go, .b (hs'), .f (hm), .f (hq), .f (hbb (decide (0 < a.fst)) (gap.fmod 2 == 0)), .go, .b (hn')] rfl (by kernel_rfl)
end
end Mine

open PySem PySem.W PySem.Spec PySem.Calls PyProof.Rows
set_option Elab.async false
set_option maxRecDepth 100000
set_option linter.unusedSimpArgs false
set_option linter.unusedVariables false
namespace Mine
/-! the plain law: what is due comes -/
noncomputable def sameD (a b : D) : Bool := shp a && shp b && PyData.eqv a b
noncomputable def limIs (side : Int) (t : T) (due : D) : Bool := match limF side t with
  | some d => sameD d due
  | none => false
theorem limIs_some {side : Int} {t : T} {due : D} (h : limIs side t due = true) : ∃ d, limF side t = some d ∧ (shp d && shp due) = true ∧ PyData.eqv d due = true := by
  unfold limIs at h
  split at h
  · rename_i d e
    unfold sameD at h
    rw [Bool.and_eq_true] at h
    exact ⟨d, e, h.1, h.2⟩
  · cases h

noncomputable def rrBelow (l far : Int) : Int := far.fdiv 2 + l
noncomputable def rrT (c : Nat) (f l far : Int) : T := .two (.sq (.call c (part (f * f) far))) (.pow .x (0 - rrBelow l far))
noncomputable def rrTurn (f l far side : Int) : Int := if 0 < side ∨ (rrBelow l far).fmod 2 = 0 then f else 0 - f
noncomputable def rrDue (f l far side : Int) : D := if l = 0 then rD (rrTurn f l far side, 1) else dueF (rrTurn f l far side, 1) (0 - l) 1
noncomputable def fars : List Int := [1048576, 20, 48, 32, 100]
noncomputable def sides : List Int := [1, -1]
theorem rr_all : (fars.all fun far => sides.all fun side => [1, 2, 3].all fun f => [-1, 0, 1].all fun l => limIs side (rrT 0 f l far) (rrDue f l far side)) = true := by decide +kernel

noncomputable def ppT1 (c : Nat) (n m : Int) : T := .pow (.call c (part n m)) (-1)
noncomputable def ppT2 (c : Nat) (n m : Int) : T := .two (.call c (part n m)) (.pow .x (0 - m))
theorem pp_all : (fars.all fun far => sides.all fun side => [2, -3].all fun n => [0, 1].all fun j => limIs side (ppT1 0 n (far + j)) (dueF (n, 1) (0 - (far + j)) side) && limIs side (ppT2 0 n (far + j)) (rD (n, 1))) = true := by decide +kernel

noncomputable def qqT (a b c m gap : Int) : T := .three (.sum (part a m) (part b (m + 1))) (.pow (.sum (part c m) (part (-1) (m + 2))) (-1)) (.pow .x gap)
noncomputable def qqDue (a c gap side : Int) : D := dueF (if 0 < c then (a, c) else (0 - a, 0 - c)) gap side
noncomputable def qqOk (m : Int) : Bool := sides.all fun side => [3, -1, 5].all fun a => [1, 2, -4].all fun c => [-1, 0, 1].all fun gap => limIs side (qqT a 0 c m gap) (qqDue a c gap side)
noncomputable def oneAt (side b m : Int) : Bool := match mono 1 [R0, (side, 1)] (part b m) with
  | some (l, [_]) => l == m
  | _ => false
noncomputable def qqB (m : Int) : Bool := sides.all fun side => [-2, -1, 0, 1, 2].all fun b => oneAt side b (m + 1)
noncomputable def qqM1 : List Int := [1048576, 48, 32, 100, 20, 3]
noncomputable def qqM2 : List Int := [4, 5, 6, 7, 8, 9, 10]
noncomputable def qqM3 : List Int := [11, 12, 13, 14, 15, 16]
noncomputable def qqM4 : List Int := [17, 18, 19, 21, 22]
theorem qq_1 : (qqM1.all fun m => qqOk m && qqB m) = true := by decide +kernel
theorem qq_2 : (qqM2.all fun m => qqOk m && qqB m) = true := by decide +kernel
theorem qq_3 : (qqM3.all fun m => qqOk m && qqB m) = true := by decide +kernel
theorem qq_4 : (qqM4.all fun m => qqOk m && qqB m) = true := by decide +kernel
noncomputable def qqIn (m : Int) : Prop := m ∈ qqM1 ∨ m ∈ qqM2 ∨ m ∈ qqM3 ∨ m ∈ qqM4
theorem qq_at {m : Int} (h : qqIn m) : qqOk m = true ∧ qqB m = true := by
  rcases h with h | h | h | h
  · have := List.all_eq_true.mp qq_1 m h; simpa using this
  · have := List.all_eq_true.mp qq_2 m h; simpa using this
  · have := List.all_eq_true.mp qq_3 m h; simpa using this
  · have := List.all_eq_true.mp qq_4 m h; simpa using this
theorem one_some {side b m : Int} (h : oneAt side b m = true) : ∃ r, mono 1 [R0, (side, 1)] (part b m) = some (m, [r]) := by
  unfold oneAt at h
  split at h
  · rename_i l r e
    rw [beq_iff_eq] at h
    subst h
    exact ⟨r, e⟩
  · cases h
theorem la_any {A : Int × List R} {l : Int} {r r' : R} : laF A (l, [r]) = laF A (l, [r']) := by
  unfold laF
  obtain ⟨l1, as⟩ := A
  cases as with
  | nil => rfl
  | cons a as =>
    cases as with
    | nil => rfl
    | cons a' as => rfl
theorem qq_any {side a b c m gap : Int} {due : D} (h1 : oneAt side b (m + 1) = true) (h2 : oneAt side 0 (m + 1) = true) (h : limIs side (qqT a 0 c m gap) due = true) : limIs side (qqT a b c m gap) due = true := by
  obtain ⟨r, e⟩ := one_some h1
  obtain ⟨r', e'⟩ := one_some h2
  have es : mono 1 [R0, (side, 1)] (.sum (part a m) (part b (m + 1))) = mono 1 [R0, (side, 1)] (.sum (part a m) (part 0 (m + 1))) := by
    unfold mono
    rw [e, e']
    cases mono 1 [R0, (side, 1)] (part a m) with
    | none => rfl
    | some A => exact la_any
  have em : mono 1 [R0, (side, 1)] (qqT a b c m gap) = mono 1 [R0, (side, 1)] (qqT a 0 c m gap) := by
    unfold qqT
    unfold mono
    rw [es]
  unfold limIs limF at h ⊢
  rw [em]
  exact h
theorem all_at {α : Type} {l : List α} {p : α → Bool} (h : l.all p = true) {x : α} (hx : x ∈ l) : p x = true := List.all_eq_true.mp h x hx
theorem qq_get {m side a b c gap : Int} (hm : qqIn m) (hs : side ∈ sides) (ha : a ∈ ([3, -1, 5] : List Int)) (hb : b ∈ ([-2, -1, 0, 1, 2] : List Int)) (hc : c ∈ ([1, 2, -4] : List Int)) (hg : gap ∈ ([-1, 0, 1] : List Int)) : limIs side (qqT a b c m gap) (qqDue a c gap side) = true := by
  obtain ⟨h1, h2⟩ := qq_at hm
  exact qq_any (all_at (all_at h2 hs) hb) (all_at (all_at h2 hs) (by simp)) (all_at (all_at (all_at (all_at h1 hs) ha) hc) hg)
theorem rr_get {far side f l : Int} (h1 : far ∈ fars) (h2 : side ∈ sides) (h3 : f ∈ ([1, 2, 3] : List Int)) (h4 : l ∈ ([-1, 0, 1] : List Int)) (c : Nat) : limIs side (rrT c f l far) (rrDue f l far side) = true :=
  all_at (all_at (all_at (all_at rr_all h1) h2) h3) h4
theorem pp_get {far side n j : Int} (h1 : far ∈ fars) (h2 : side ∈ sides) (h3 : n ∈ ([2, -3] : List Int)) (h4 : j ∈ ([0, 1] : List Int)) (c : Nat) : limIs side (ppT1 c n (far + j)) (dueF (n, 1) (0 - (far + j)) side) = true ∧ limIs side (ppT2 c n (far + j)) (rD (n, 1)) = true := by
  have := all_at (all_at (all_at (all_at pp_all h1) h2) h3) h4
  rw [Bool.and_eq_true] at this
  exact this
end Mine

open PySem PySem.W PySem.Spec PySem.Calls PyProof.Rows
set_option Elab.async false
set_option maxRecDepth 100000
set_option linter.unusedSimpArgs false
set_option linter.unusedVariables false
namespace Mine
section
variable {Φ : PhiT} {Γ : GamT} {k : Nat} {dr : Nat → Int → Int}
/-- the draws -/
noncomputable def HasT (Φ : PhiT) (dr : Nat → Int → Int) : Prop := ∃ φ, Φ n_law_take = some φ ∧ ∀ k (m : Int), k < 2000 → 0 < m → m ≤ 100 → φ k [.dict [], .int m] = .ok (.int (dr k m)) (k + 1)
theorem HasT.call (h : HasT Φ dr) (k : Nat) {m : Int} (p : 0 < m) (hk : k < 2000 := by omega) (hm : m ≤ 100 := by decide) : callE (Φ n_law_take) (.ok [.dict [], .int m] k) = .ok (.int (dr k m)) (k + 1) := by
  obtain ⟨φ, e, q⟩ := h
  rw [e]
  exact q k m hk p hm
noncomputable def Draws (dr : Nat → Int → Int) : Prop := ∀ k m, 0 < m → 0 ≤ dr k m ∧ dr k m < m

noncomputable def nth (l : List Int) (j : Int) : Int := l.getD j.toNat 0
theorem ix2 {a b j : Int} (h : 0 ≤ j ∧ j < 2) (k : Nat) : idxD (.list [.int a, .int b]) (.int j) k = .ok (.int (nth [a, b] j)) k := by
  have : j = 0 ∨ j = 1 := by omega
  rcases this with rfl | rfl <;> rfl
theorem ix3 {a b c j : Int} (h : 0 ≤ j ∧ j < 3) (k : Nat) : idxD (.list [.int a, .int b, .int c]) (.int j) k = .ok (.int (nth [a, b, c] j)) k := by
  have : j = 0 ∨ j = 1 ∨ j = 2 := by omega
  rcases this with rfl | rfl | rfl <;> rfl
theorem ix5 {a b c d e j : Int} (h : 0 ≤ j ∧ j < 5) (k : Nat) : idxD (.list [.int a, .int b, .int c, .int d, .int e]) (.int j) k = .ok (.int (nth [a, b, c, d, e] j)) k := by
  have : j = 0 ∨ j = 1 ∨ j = 2 ∨ j = 3 ∨ j = 4 := by omega
  rcases this with rfl | rfl | rfl | rfl | rfl <;> rfl
theorem ixN {j : Int} (h : 0 ≤ j ∧ j < 3) (k : Nat) : idxD (.list [.str s_sin, .str s_tan, .str s_atan]) (.int j) k = .ok (.str (fnN j.toNat)) k := by
  have : j = 0 ∨ j = 1 ∨ j = 2 := by omega
  rcases this with rfl | rfl | rfl <;> rfl
theorem nth_in {l : List Int} {j : Int} (h : 0 ≤ j ∧ j < l.length) : nth l j ∈ l := by
  unfold nth
  have hl : j.toNat < l.length := by omega
  have e : l.getD j.toNat 0 = l[j.toNat] := by simp [hl]
  rw [e]
  exact List.getElem_mem hl

noncomputable def rrP (ds : List D) : Prop := ∃ (c : Nat) (far side : Int), ds = [.dict [], .str (fnN c), .int far, .int side] ∧ far ∈ fars ∧ side ∈ sides
theorem rr_ok (hk : k < 1000) (hT : HasT Φ dr) (hd : Draws dr) (hl : Has Φ n_law_part lptP) (hp : Has Φ n_law_power lpwP) (ht : Has Φ n_law_told (tlP 5)) (hu : Has Φ n_law_due dueP) (g : Gn Γ) {ds : List D} (h : rrP ds) : ∃ k', runB Φ Γ 60 Q_law_root_right B_law_root_right k ds = .ok (.bool true) k' := by
  obtain ⟨c, far, side, rfl, h1, h2⟩ := h
  obtain ⟨x, ex⟩ : ∃ x, dr k 3 = x := ⟨_, rfl⟩
  obtain ⟨y, ey⟩ : ∃ y, dr (k + 1) 3 = y := ⟨_, rfl⟩
  have hx := hd k 3 (by decide)
  have hy := hd (k + 1) 3 (by decide)
  have c0 := hT.call k (m := 3) (by decide)
  have c1 := hT.call (k + 1) (m := 3) (by decide)
  rw [ex] at hx c0
  rw [ey] at hy c1
  have hf : (1 + x) ∈ ([1, 2, 3] : List Int) := by simp; omega
  have hl' : (y - 1) ∈ ([-1, 0, 1] : List Int) := by simp; omega
  obtain ⟨d, e1, e2, e3⟩ := limIs_some (rr_get h1 h2 hf hl' c)
  have hside : side = 1 ∨ side = -1 := by simpa [sides] using h2
  have cl := fun k => hl.call k ⟨(1 + x) * (1 + x), far, rfl, rfl⟩
  have cp := fun k => hp.call k ⟨.x, 0 - (far.fdiv 2 + (y - 1)), rfl, rfl⟩
  have ct : ∀ k, callE (Φ n_law_told) (.ok [.tuple [.str s_prod, .tuple [.tuple [.str s_pow, .tuple [.str s_call, .str (fnN c), .tuple [enc (part ((1 + x) * (1 + x)) far)]], .tuple [.str s_num, .int 1, .int 2]], enc (.pow .x (0 - (far.fdiv 2 + (y - 1))))]], .int side] k) = .ok d k := fun k => ht.call k ⟨rrT c (1 + x) (y - 1) far, side, rfl, Nat.le_refl 5, hside, e1⟩
  have cu := fun t k => hu.call k ⟨(t, 1), 0 - (y - 1), 1, rfl, rfl⟩
  have hmul : ∀ k, binD .Mult (.int (1 + x)) (.int (1 + x)) k = .ok (.int ((1 + x) * (1 + x))) k := fun k => mul_i (mulOk_sm (show (1 + x).natAbs < _ from Nat.lt_trans (show (1 + x).natAbs < 5 by omega) (by decide)) (show (1 + x).natAbs < _ from Nat.lt_trans (show (1 + x).natAbs < 5 by omega) (by decide)))
  have hdiv : ∀ k, binD .FloorDiv (.int far) (.int 2) k = .ok (.int (far.fdiv 2)) k := fun k => div_i ⟨by decide, pyl (by decide)⟩
  have hmod : ∀ k, binD .Mod (.int (far.fdiv 2 + (y - 1))) (.int 2) k = .ok (.int ((far.fdiv 2 + (y - 1)).fmod 2)) k := fun k => mod_i (by decide)
  have heq : ∀ k, cmpD .Eq d (rrDue (1 + x) (y - 1) far side) k = .ok (.bool true) k := fun k => by rw [eq_d e2, e3]
  have lx := fun k => getG_hit (k := k) g.lx
  have q0 := fun k => eq_i0 (k := k) (m := y - 1)
  have qm := fun k => eq_i0 (k := k) (m := (far.fdiv 2 + (y - 1)).fmod 2)
  refine ⟨k + 1 + 1, ?_⟩
  unfold rrDue rrTurn rrBelow at heq
  rcases hside with rfl | rfl
  · simp only [show ((0 : Int) < 1 ∨ (far.fdiv 2 + (y - 1)).fmod 2 = 0) from .inl (by decide), if_true] at heq
    by_cases h0 : y - 1 = 0
    · have h0' := decide_eq_true h0
      rw [if_pos h0] at heq
      exact of_wp [.f (c0), .go, .f (c1), .go, .f (hmul (k + 1 + 1)), .f (cl (k + 1 + 1)), .f (hdiv (k + 1 + 1)), .go, .f (lx (k + 1 + 1)), .go, .f (cp (k + 1 + 1)), .f (ct (k + 1 + 1)), .go, .go, .go, .f (q0 (k + 1 + 1)), .b (h0'), .f (heq (k + 1 + 1))] rfl (by kernel_rfl)
    · have h0' := decide_eq_false h0
      rw [if_neg h0] at heq
      exact of_wp [.f (c0), .go, .f (c1), .go, .f (hmul (k + 1 + 1)), .f (cl (k + 1 + 1)), .f (hdiv (k + 1 + 1)), .go, .f (lx (k + 1 + 1)), .go, .f (cp (k + 1 + 1)), .f (ct (k + 1 + 1)), .go, .go, .go, .f (q0 (k + 1 + 1)), .b (h0'), .go, .f (cu (1 + x) (k + 1 + 1)), .f (heq (k + 1 + 1))] rfl (by kernel_rfl)
  · by_cases hz : (far.fdiv 2 + (y - 1)).fmod 2 = 0
    · have hz' := decide_eq_true hz
      simp only [show ((0 : Int) < -1 ∨ (far.fdiv 2 + (y - 1)).fmod 2 = 0) from .inr hz, if_true] at heq
      by_cases h0 : y - 1 = 0
      · have h0' := decide_eq_true h0
        rw [if_pos h0] at heq
        exact of_wp [.f (c0), .go, .f (c1), .go, .f (hmul (k + 1 + 1)), .f (cl (k + 1 + 1)), .f (hdiv (k + 1 + 1)), .go, .f (lx (k + 1 + 1)), .go, .f (cp (k + 1 + 1)), .f (ct (k + 1 + 1)), .go, .go, .f (hmod (k + 1 + 1)), .f (qm (k + 1 + 1)), .b (hz'), .go, .f (q0 (k + 1 + 1)), .b (h0'), .f (heq (k + 1 + 1))] rfl (by kernel_rfl)
      · have h0' := decide_eq_false h0
        rw [if_neg h0] at heq
        exact of_wp [.f (c0), .go, .f (c1), .go, .f (hmul (k + 1 + 1)), .f (cl (k + 1 + 1)), .f (hdiv (k + 1 + 1)), .go, .f (lx (k + 1 + 1)), .go, .f (cp (k + 1 + 1)), .f (ct (k + 1 + 1)), .go, .go, .f (hmod (k + 1 + 1)), .f (qm (k + 1 + 1)), .b (hz'), .go, .f (q0 (k + 1 + 1)), .b (h0'), .go, .f (cu (1 + x) (k + 1 + 1)), .f (heq (k + 1 + 1))] rfl (by kernel_rfl)
    · have hz' := decide_eq_false hz
      rw [if_neg (show ¬ ((0 : Int) < -1 ∨ (far.fdiv 2 + (y - 1)).fmod 2 = 0) from fun q => q.elim (by decide) hz)] at heq
      by_cases h0 : y - 1 = 0
      · have h0' := decide_eq_true h0
        rw [if_pos h0] at heq
        exact of_wp [.f (c0), .go, .f (c1), .go, .f (hmul (k + 1 + 1)), .f (cl (k + 1 + 1)), .f (hdiv (k + 1 + 1)), .go, .f (lx (k + 1 + 1)), .go, .f (cp (k + 1 + 1)), .f (ct (k + 1 + 1)), .go, .go, .f (hmod (k + 1 + 1)), .f (qm (k + 1 + 1)), .b (hz'), .go, .go, .f (q0 (k + 1 + 1)), .b (h0'), .f (heq (k + 1 + 1))] rfl (by kernel_rfl)
      · have h0' := decide_eq_false h0
        rw [if_neg h0] at heq
        exact of_wp [.f (c0), .go, .f (c1), .go, .f (hmul (k + 1 + 1)), .f (cl (k + 1 + 1)), .f (hdiv (k + 1 + 1)), .go, .f (lx (k + 1 + 1)), .go, .f (cp (k + 1 + 1)), .f (ct (k + 1 + 1)), .go, .go, .f (hmod (k + 1 + 1)), .f (qm (k + 1 + 1)), .b (hz'), .go, .go, .f (q0 (k + 1 + 1)), .b (h0'), .go, .f (cu (0 - (1 + x)) (k + 1 + 1)), .f (heq (k + 1 + 1))] rfl (by kernel_rfl)
end
end Mine

open PySem PySem.W PySem.Spec PySem.Calls PyProof.Rows
set_option Elab.async false
set_option maxRecDepth 100000
set_option linter.unusedSimpArgs false
set_option linter.unusedVariables false
namespace Mine
section
variable {Φ : PhiT} {Γ : GamT} {k : Nat} {dr : Nat → Int → Int}
theorem pp_ok (hk : k < 1000) (hT : HasT Φ dr) (hd : Draws dr) (hl : Has Φ n_law_part lptP) (hp : Has Φ n_law_power lpwP) (ht : Has Φ n_law_told (tlP 5)) (hu : Has Φ n_law_due dueP) (g : Gn Γ) {ds : List D} (h : rrP ds) : ∃ k', runB Φ Γ 60 Q_law_pole_right B_law_pole_right k ds = .ok (.bool true) k' := by
  obtain ⟨c, far, side, rfl, h1, h2⟩ := h
  obtain ⟨x, ex⟩ : ∃ x, dr k 2 = x := ⟨_, rfl⟩
  obtain ⟨y, ey⟩ : ∃ y, dr (k + 1) 2 = y := ⟨_, rfl⟩
  have hx := hd k 2 (by decide)
  have hy := hd (k + 1) 2 (by decide)
  have c0 := hT.call k (m := 2) (by decide)
  have c1 := hT.call (k + 1) (m := 2) (by decide)
  rw [ex] at hx c0
  rw [ey] at hy c1
  have iy := fun k => ix2 (a := 2) (b := -3) hy k
  have hn := nth_in (l := [2, -3]) hy
  generalize nth [2, -3] y = n at iy hn
  have hj : x ∈ ([0, 1] : List Int) := by simp; omega
  obtain ⟨hA, hB⟩ := pp_get h1 h2 hn hj c
  obtain ⟨d, e1, e2, e3⟩ := limIs_some hA
  obtain ⟨d', f1, f2, f3⟩ := limIs_some hB
  have hside : side = 1 ∨ side = -1 := by simpa [sides] using h2
  have cl := fun k => hl.call k ⟨n, far + x, rfl, rfl⟩
  have cp1 : ∀ k, callE (Φ n_law_power) (.ok [.tuple [.str s_call, .str (fnN c), .tuple [enc (part n (far + x))]], .int (-1)] k) = .ok (enc (ppT1 c n (far + x))) k := fun k => hp.call k ⟨.call c (part n (far + x)), -1, rfl, rfl⟩
  have cp2 := fun k => hp.call k ⟨.x, 0 - (far + x), rfl, rfl⟩
  have ct1 : ∀ k, callE (Φ n_law_told) (.ok [enc (ppT1 c n (far + x)), .int side] k) = .ok d k := fun k => ht.call k ⟨ppT1 c n (far + x), side, rfl, (show 4 ≤ 5 by decide), hside, e1⟩
  have ct2 : ∀ k, callE (Φ n_law_told) (.ok [.tuple [.str s_prod, .tuple [.tuple [.str s_call, .str (fnN c), .tuple [enc (part n (far + x))]], enc (.pow .x (0 - (far + x)))]], .int side] k) = .ok d' k := fun k => ht.call k ⟨ppT2 c n (far + x), side, rfl, (show 4 ≤ 5 by decide), hside, f1⟩
  have cu := fun k => hu.call k ⟨(n, 1), 0 - (far + x), side, rfl, rfl⟩
  have hne : ∀ k, cmpD .NotEq d (dueF (n, 1) (0 - (far + x)) side) k = .ok (.bool false) k := fun k => by rw [ne_d e2, e3]; rfl
  have heq : ∀ k, cmpD .Eq d' (.tuple [.int n, .int 1]) k = .ok (.bool true) k := fun k => by rw [eq_d f2, f3]
  refine ⟨k + 1 + 1, ?_⟩
  have lx := fun k => getG_hit (k := k) g.lx
  exact of_wp [.f (c0), .go, .f (c1), .f (iy (k + 1 + 1)), .f (cl (k + 1 + 1)), .f (cp1 (k + 1 + 1)), .f (ct1 (k + 1 + 1)), .go, .f (cu (k + 1 + 1)), .f (hne (k + 1 + 1)), .go, .f (lx (k + 1 + 1)), .go, .f (cp2 (k + 1 + 1)), .f (ct2 (k + 1 + 1)), .f (heq (k + 1 + 1))] rfl (by kernel_rfl)

noncomputable def qqP (ds : List D) : Prop := ∃ (far side : Int), ds = [.dict [], .int far, .int side] ∧ far ∈ fars ∧ side ∈ sides
noncomputable def qqL : List S := B_law_quotient_right.drop 1
theorem qq_rest (hk : k < 1100) (hT : HasT Φ dr) (hd : Draws dr) (hl : Has Φ n_law_part lptP) (hp : Has Φ n_law_power lpwP) (ht : Has Φ n_law_told (tlP 5)) (hu : Has Φ n_law_due dueP) (g : Gn Γ) {far m side : Int} (hm : qqIn m) (h2 : side ∈ sides) : ∃ k', retR (exL (fun ρ k s => ex Φ Γ 60 ρ k s) qqL [(8155076, .val (.dict [])), (7954892, .val (.int far)), (963799526, .val (.int side)), (1048011226, .val (.int m))] k) = .ok (.bool true) k' := by
  obtain ⟨x, ex⟩ : ∃ x, dr k 3 = x := ⟨_, rfl⟩
  obtain ⟨y, ey⟩ : ∃ y, dr (k + 1) 5 = y := ⟨_, rfl⟩
  obtain ⟨z, ez⟩ : ∃ z, dr (k + 1 + 1) 3 = z := ⟨_, rfl⟩
  obtain ⟨u, eu⟩ : ∃ u, dr (k + 1 + 1 + 1) 3 = u := ⟨_, rfl⟩
  have hx := hd k 3 (by decide)
  have hy := hd (k + 1) 5 (by decide)
  have hz := hd (k + 1 + 1) 3 (by decide)
  have hu' := hd (k + 1 + 1 + 1) 3 (by decide)
  have c0 := hT.call k (m := 3) (by decide)
  have c1 := hT.call (k + 1) (m := 5) (by decide)
  have c2 := hT.call (k + 1 + 1) (m := 3) (by decide)
  have c3 := hT.call (k + 1 + 1 + 1) (m := 3) (by decide)
  rw [ex] at hx c0
  rw [ey] at hy c1
  rw [ez] at hz c2
  rw [eu] at hu' c3
  have ix := fun k => ix3 (a := 3) (b := -1) (c := 5) hx k
  have iz := fun k => ix3 (a := 1) (b := 2) (c := -4) hz k
  have ha := nth_in (l := [3, -1, 5]) hx
  have hc := nth_in (l := [1, 2, -4]) hz
  generalize nth [3, -1, 5] x = a at ix ha
  generalize nth [1, 2, -4] z = c at iz hc
  have hb : (y - 2) ∈ ([-2, -1, 0, 1, 2] : List Int) := by simp; omega
  have hg : (u - 1) ∈ ([-1, 0, 1] : List Int) := by simp; omega
  obtain ⟨d, e1, e2, e3⟩ := limIs_some (qq_get hm h2 ha hb hc hg)
  have hside : side = 1 ∨ side = -1 := by simpa [sides] using h2
  have l1 := fun k => hl.call k ⟨a, m, rfl, rfl⟩
  have l2 := fun k => hl.call k ⟨y - 2, m + 1, rfl, rfl⟩
  have l3 := fun k => hl.call k ⟨c, m, rfl, rfl⟩
  have l4 := fun k => hl.call k ⟨-1, m + 2, rfl, rfl⟩
  have p1 : ∀ k, callE (Φ n_law_power) (.ok [.tuple [.str s_sum, .tuple [enc (part c m), enc (part (-1) (m + 2))]], .int (-1)] k) = .ok (enc (.pow (.sum (part c m) (part (-1) (m + 2))) (-1))) k := fun k => hp.call k ⟨.sum (part c m) (part (-1) (m + 2)), -1, rfl, rfl⟩
  have p2 := fun k => hp.call k ⟨.x, u - 1, rfl, rfl⟩
  have ct : ∀ k, callE (Φ n_law_told) (.ok [.tuple [.str s_prod, .tuple [.tuple [.str s_sum, .tuple [enc (part a m), enc (part (y - 2) (m + 1))]], enc (.pow (.sum (part c m) (part (-1) (m + 2))) (-1)), enc (.pow .x (u - 1))]], .int side] k) = .ok d k := fun k => ht.call k ⟨qqT a (y - 2) c m (u - 1), side, rfl, Nat.le_refl 5, hside, e1⟩
  have cu := fun k => hu.call k ⟨(if 0 < c then (a, c) else (0 - a, 0 - c)), u - 1, side, rfl, rfl⟩
  have heq : ∀ k, cmpD .Eq d (qqDue a c (u - 1) side) k = .ok (.bool true) k := fun k => by rw [eq_d e2, e3]
  refine ⟨k + 1 + 1 + 1 + 1, ?_⟩
  unfold qqDue at heq
  have lx := fun k => getG_hit (k := k) g.lx
  by_cases hc0 : 0 < c
  · have hc' := decide_eq_true hc0
    rw [if_pos hc0] at heq cu
    exact ret_wp [.f (c0), .f (ix (k + 1)), .f (c1), .go, .f (c2), .f (iz (k + 1 + 1 + 1)), .f (l1 (k + 1 + 1 + 1)), .go, .f (l2 (k + 1 + 1 + 1)), .f (l3 (k + 1 + 1 + 1)), .go, .f (l4 (k + 1 + 1 + 1)), .f (c3), .go, .f (p1 (k + 1 + 1 + 1 + 1)), .f (lx (k + 1 + 1 + 1 + 1)), .f (p2 (k + 1 + 1 + 1 + 1)), .f (ct (k + 1 + 1 + 1 + 1)), .go, .b (hc'), .f (cu (k + 1 + 1 + 1 + 1)), .f (heq (k + 1 + 1 + 1 + 1))] rfl (by kernel_rfl)
  · have hc' := decide_eq_false hc0
    rw [if_neg hc0] at heq cu
    exact ret_wp [.f (c0), .f (ix (k + 1)), .f (c1), .go, .f (c2), .f (iz (k + 1 + 1 + 1)), .f (l1 (k + 1 + 1 + 1)), .go, .f (l2 (k + 1 + 1 + 1)), .f (l3 (k + 1 + 1 + 1)), .go, .f (l4 (k + 1 + 1 + 1)), .f (c3), .go, .f (p1 (k + 1 + 1 + 1 + 1)), .f (lx (k + 1 + 1 + 1 + 1)), .f (p2 (k + 1 + 1 + 1 + 1)), .f (ct (k + 1 + 1 + 1 + 1)), .go, .b (hc'), .go, .go, .f (cu (k + 1 + 1 + 1 + 1)), .f (heq (k + 1 + 1 + 1 + 1))] rfl (by kernel_rfl)
theorem far_in {far : Int} (h : far ∈ fars) : qqIn far := by
  have : far = 1048576 ∨ far = 20 ∨ far = 48 ∨ far = 32 ∨ far = 100 := by simpa [fars] using h
  rcases this with rfl | rfl | rfl | rfl | rfl <;> exact .inl (by decide)
theorem near_all : ((List.range 20).all fun n => decide ((3 + (n : Int)) ∈ qqM1) || (decide ((3 + (n : Int)) ∈ qqM2) || (decide ((3 + (n : Int)) ∈ qqM3) || decide ((3 + (n : Int)) ∈ qqM4)))) = true := by decide +kernel
theorem near_in {x : Int} (h : 0 ≤ x ∧ x < 20) : qqIn (3 + x) := by
  obtain ⟨n, rfl⟩ : ∃ n : Nat, x = n := ⟨x.toNat, by omega⟩
  have := all_at near_all (x := n) (List.mem_range.mpr (by omega))
  simp only [Bool.or_eq_true, decide_eq_true_eq] at this
  exact this
theorem qq_ok (hk : k < 1000) (hT : HasT Φ dr) (hd : Draws dr) (hl : Has Φ n_law_part lptP) (hp : Has Φ n_law_power lpwP) (ht : Has Φ n_law_told (tlP 5)) (hu : Has Φ n_law_due dueP) (g : Gn Γ) {ds : List D} (h : qqP ds) : ∃ k', runB Φ Γ 60 Q_law_quotient_right B_law_quotient_right k ds = .ok (.bool true) k' := by
  obtain ⟨far, side, rfl, h1, h2⟩ := h
  obtain ⟨x, ex⟩ : ∃ x, dr k 2 = x := ⟨_, rfl⟩
  have hx := hd k 2 (by decide)
  have c0 := hT.call k (m := 2) (by decide)
  rw [ex] at hx c0
  have hq : ∀ k, cmpD .Eq (.int x) (.int 1) k = .ok (.bool (x == 1)) k := fun k => by rw [eq_d rfl, eqv_i]
  have go : ∀ {m : Int} {k1 k' : Nat}, Mine.ex Φ Γ 60 [(8155076, .val (.dict [])), (7954892, .val (.int far)), (963799526, .val (.int side))] k (.assign 1048011226 (.ite (.cmp .Eq (.call 33123710603390676158 [(.var 8155076), (.int 2)]) (.int 1)) (.bin .Add (.int 3) (.call 33123710603390676158 [(.var 8155076), (.int 20)])) (.var 7954892))) = .ok (.next, [(8155076, .val (.dict [])), (7954892, .val (.int far)), (963799526, .val (.int side)), (1048011226, .val (.int m))]) k1 → retR (exL (fun ρ k s => Mine.ex Φ Γ 60 ρ k s) qqL [(8155076, .val (.dict [])), (7954892, .val (.int far)), (963799526, .val (.int side)), (1048011226, .val (.int m))] k1) = .ok (.bool true) k' → runB Φ Γ 60 Q_law_quotient_right B_law_quotient_right k [.dict [], .int far, .int side] = .ok (.bool true) k' := fun h1 h2 => by
    rw [run_ rfl, ← h2]
    show retR ((Mine.ex Φ Γ 60 [(8155076, .val (.dict [])), (7954892, .val (.int far)), (963799526, .val (.int side))] k (.assign 1048011226 (.ite (.cmp .Eq (.call 33123710603390676158 [(.var 8155076), (.int 2)]) (.int 1)) (.bin .Add (.int 3) (.call 33123710603390676158 [(.var 8155076), (.int 20)])) (.var 7954892)))).bind _) = _
    rw [h1]
    rfl
  cases hx1 : (x == 1) with
  | true =>
    obtain ⟨y, ey⟩ : ∃ y, dr (k + 1) 20 = y := ⟨_, rfl⟩
    have hy := hd (k + 1) 20 (by decide)
    have c1 := hT.call (k + 1) (m := 20) (by decide)
    rw [ey] at hy c1
    obtain ⟨k', e⟩ := qq_rest (k := k + 1 + 1) (by omega) hT hd hl hp ht hu g (far := far) (near_in hy) h2
    refine ⟨k', go ?_ e⟩
    exact one_wp [.f (c0), .f (hq (k + 1)), .b (hx1), .f (c1), .go] rfl (by kernel_rfl)
  | false =>
    obtain ⟨k', e⟩ := qq_rest (k := k + 1) (by omega) hT hd hl hp ht hu g (far := far) (far_in h1) h2
    refine ⟨k', go ?_ e⟩
    exact one_wp [.f (c0), .f (hq (k + 1)), .b (hx1)] rfl (by kernel_rfl)
end
end Mine

open PySem PySem.W PySem.Spec PySem.Calls PyProof.Rows
set_option Elab.async false
set_option maxRecDepth 100000
set_option linter.unusedSimpArgs false
set_option linter.unusedVariables false
namespace Mine
theorem trim_reps {l : Int} {a : R} {as : List R} (ha : isR R0 a = false) : ∀ n : Nat, trimF l (List.replicate n R0 ++ a :: as) = (l + n, a :: as) := by
  intro n
  induction n generalizing l with
  | zero =>
    show trimF l (a :: as) = _
    unfold trimF
    rw [if_neg (by rw [ha]; decide)]
    simp
  | succ n ih =>
    rw [List.replicate_succ, List.cons_append]
    unfold trimF
    rw [if_pos (by decide), ih]
    congr 1
    omega
theorem reps_flat : ∀ n : Nat, (List.replicate n [PyData.tuple [PyData.int 0, PyData.int 1]]).flatten = (List.replicate n R0).map rD
  | 0 => rfl
  | n + 1 => by
    rw [List.replicate_succ, List.replicate_succ, List.flatten_cons, List.map_cons, reps_flat n]
    rfl
theorem eqv_rs : ∀ rs : List R, PyData.eqvAll (rs.map rD) (rs.map rD) = true
  | [] => rfl
  | a :: as => by
    show (PyData.eqv (rD a) (rD a) && PyData.eqvAll (as.map rD) (as.map rD)) = true
    rw [eqv_rs as, eqv_r, beq_self_eq_true, beq_self_eq_true]
    rfl
theorem lay_rs : ∀ rs : List R, PyData.canLayAll0 (rs.map rD) = true
  | [] => by simp only [List.map_nil, PyData.canLayAll0]
  | a :: as => by
    have h := lay_rs as
    simp only [List.map_cons, PyData.canLayAll0, PyData.canLay0, Bool.and_self, h]
theorem dep_rs : ∀ rs : List R, PyData.depthAll (rs.map rD) ≤ 1
  | [] => Nat.zero_le _
  | a :: as => by
    have h := dep_rs as
    show max 1 (PyData.depthAll (as.map rD)) ≤ 1
    omega
theorem eq_sD {l : Int} {rs : List R} {k : Nat} : cmpD .Eq (sD l rs) (sD l rs) k = .ok (.bool true) k := by
  have hs : shp (sD l rs) = true := by
    show (PyData.canLay0 (sD l rs) && decide (PyData.depth (sD l rs) ≤ 64)) = true
    have h := lay_rs rs
    have h2 := dep_rs rs
    have h3 : PyData.depth (sD l rs) ≤ 64 := by
      show max 0 (max (PyData.depthAll (rs.map rD) + 1) 0) + 1 ≤ 64
      omega
    rw [decide_eq_true h3]
    simp only [sD, lD, PyData.canLayAll0, PyData.canLay0, h, Bool.and_self]
  rw [eq_d (by rw [hs]; rfl)]
  have : PyData.eqv (sD l rs) (sD l rs) = true := by
    show ((l == l) && (PyData.eqvAll (rs.map rD) (rs.map rD) && true)) = true
    rw [eqv_rs, beq_self_eq_true]
    rfl
  rw [this]

section
variable {Φ : PhiT} {Γ : GamT} {k : Nat} {dr : Nat → Int → Int}
noncomputable def rowF (dr : Nat → Int → Int) (k : Nat) : Nat → List R
  | 0 => []
  | n + 1 => (dr k 5 - 2, 1) :: rowF dr (k + 1) n
theorem rowF_len : ∀ (n k : Nat), (rowF dr k n).length = n
  | 0, _ => rfl
  | n + 1, k => by
    show (rowF dr (k + 1) n).length + 1 = n + 1
    rw [rowF_len n]
theorem evM_draw {f : D → Nat → Rz D} (hf : ∀ d k, k < 2000 → f d k = .ok (rD (dr k 5 - 2, 1)) (k + 1)) : ∀ (items : List D) (k : Nat), k + items.length ≤ 2000 → evM f items k = .ok ((rowF dr k items.length).map rD) (k + items.length)
  | [], k, _ => rfl
  | d :: r, k, hk => by
    rw [List.length_cons] at hk
    rw [m_cons, hf _ _ (by omega), b_ok, evM_draw hf r (k + 1) (by omega), b_ok]
    show Rz.ok _ (k + 1 + r.length) = Rz.ok _ (k + (r.length + 1))
    rw [show k + 1 + r.length = k + (r.length + 1) by omega]
    rfl

noncomputable def bbP (ds : List D) : Prop := ∃ (c : Nat), ds = [.dict [], .str (fnN c)]
theorem bb_ok (hk : k < 1000) (hT : HasT Φ dr) (hd : Draws dr) (ht : Has Φ n_of_term (termP 1)) (g : Gn Γ) {ds : List D} (h : bbP ds) : ∃ k', runB Φ Γ 60 Q_law_beginning_right B_law_beginning_right k ds = .ok (.bool true) k' := by
  obtain ⟨c, rfl⟩ := h
  obtain ⟨x, ex⟩ : ∃ x, dr k 4 = x := ⟨_, rfl⟩
  obtain ⟨y, ey⟩ : ∃ y, dr (k + 1) 2 = y := ⟨_, rfl⟩
  have hx := hd k 4 (by decide)
  have hy := hd (k + 1) 2 (by decide)
  have c0 := hT.call k (m := 4) (by decide)
  have c1 := hT.call (k + 1) (m := 2) (by decide)
  have c5 := fun k (hk : k < 2000) => hT.call k (m := 5) (by decide)
  rw [ex] at hx c0
  rw [ey] at hy c1
  obtain ⟨lo, hlo⟩ : ∃ lo : Nat, (lo : Int) = 3 + x := ⟨(3 + x).toNat, by omega⟩
  have hlo2 : 3 ≤ lo ∧ lo ≤ 6 := by omega
  obtain ⟨rows, er⟩ : ∃ rows, rowF dr (k + 1 + 1) (3 * lo - 1) = rows := ⟨_, rfl⟩
  have hlen : rows.length = 3 * lo - 1 := by rw [← er, rowF_len]
  have hmul3 : ∀ k, binD .Mult (.int 3) (.int (lo : Int)) k = .ok (.int (3 * (lo : Int))) k := fun k => mul_i (mulOk_sm (by decide) (show (lo : Int).natAbs < _ from Nat.lt_trans (show (lo : Int).natAbs < 10 by omega) (by decide)))
  have hmul2 : ∀ k, binD .Mult (.int 2) (.int (lo : Int)) k = .ok (.int (2 * (lo : Int))) k := fun k => mul_i (mulOk_sm (by decide) (show (lo : Int).natAbs < _ from Nat.lt_trans (show (lo : Int).natAbs < 10 by omega) (by decide)))
  have hrng : ∀ k, rngD [.int (3 * (lo : Int) - 1)] k = .ok (.list (intsFrom 0 (3 * lo - 1))) k := fun k => by
    rw [rng_1 (by omega), show (3 * (lo : Int) - 1).toNat = 3 * lo - 1 by omega]
  have hilen : (intsFrom 0 (3 * lo - 1)).length = 3 * lo - 1 := by
    unfold intsFrom
    rw [List.length_map, List.length_range]
  have hmulL : ∀ k, binD .Mult (.list [rD R0]) (.int (lo : Int)) k = .ok (lD (List.replicate lo R0)) k := fun k => by
    have et : ((lo : Nat) : Int).toNat = lo := by omega
    rw [mul_l ⟨by omega, by omega, sz (by rw [et]; simp; omega)⟩, et]
    rw [reps_flat]
  have hadd1 : ∀ k, binD .Add (.list [rD (1 + y, 1)]) (lD rows) k = .ok (lD ((1 + y, 1) :: rows)) k := fun k => by
    rw [add_l (sz (by simp; omega))]
    rfl
  have hadd2 : ∀ k, binD .Add (lD (List.replicate lo R0)) (lD ((1 + y, 1) :: rows)) k = .ok (lD (List.replicate lo R0 ++ (1 + y, 1) :: rows)) k := fun k => by
    rw [add_l (sz (by simp; omega)), ← List.map_append]
  have hup : ∀ k, uptoD (lD ((1 + y, 1) :: rows)) (.int (2 * (lo : Int))) k = .ok (lD (((1 + y, 1) :: rows).take (2 * lo))) k := fun k => by
    rw [up_l ⟨by omega, sz (by simp; omega)⟩, show (2 * (lo : Int)).toNat = 2 * lo by omega, ← List.map_take]
  have hR : isR R0 (1 + y, 1) = false := by
    show ((1 + y == 0) && _) = false
    have : ((1 + y : Int) == 0) = false := by rw [beq_eq_false_iff_ne]; omega
    rw [this]; rfl
  have hm : mono ((lo : Int) - 1) (List.replicate lo R0 ++ (1 + y, 1) :: rows) (.call c .x) = some ((lo : Int), ((1 + y, 1) :: rows).take (2 * lo)) := by
    unfold mono
    unfold mono
    have hl : (List.replicate lo R0 ++ (1 + y, 1) :: rows).length = 4 * lo := by simp; omega
    rw [if_pos ⟨by omega, by omega, by omega⟩]
    dsimp only
    unfold ocF
    rw [trim_reps hR]
    dsimp only
    rw [if_pos ⟨by omega, by simp; omega, by omega, by omega, by unfold chkI; exact decide_eq_true (Nat.lt_trans (show (0 + (lo : Int)).natAbs < 10 by omega) (by decide))⟩]
    rw [show (2 * (0 + (lo : Int))).toNat = 2 * lo by omega, Int.zero_add]
  have co := fun k => ht.call k ⟨.call c .x, (lo : Int) - 1, _, _, _, rfl, Nat.le_refl 1, hm, rfl⟩
  have heq := fun k => eq_sD (l := (lo : Int)) (rs := ((1 + y, 1) :: rows).take (2 * lo)) (k := k)
  have ha3 : ∀ k, binD .Add (.int 3) (.int x) k = .ok (.int (lo : Int)) k := fun k => by rw [add_i, hlo]
  have hM : evM (fun d k => ev Φ Γ 57 .val ((1002010088, .val d) :: [(8155076, .val (.dict [])), (964092380, .val (.str (fnN c))), (8122328, .val (.int (lo : Int)))]) k (.tup [(.bin .Sub (.call 33123710603390676158 [(.var 8155076), (.int 5)]) (.int 2)), (.int 1)])) (intsFrom 0 (3 * lo - 1)) (k + 1 + 1) = .ok (rows.map rD) (k + 1 + 1 + (3 * lo - 1)) := by
    rw [evM_draw (dr := dr) ?hf _ _ (by rw [hilen]; omega), hilen, er]
    intro d k hk
    have c5' := c5 k hk
    exact ev_wp [.f (c5'), .go] rfl (by kernel_rfl)
  have lx := fun k => getG_hit (k := k) g.lx
  refine ⟨k + 1 + 1 + (3 * lo - 1), ?_⟩
  exact of_wp [.f (c0), .f (ha3 (k + 1)), .f (c1), .go, .f (hmul3 (k + 1 + 1)), .go, .f (hrng (k + 1 + 1)), .m (hM), .f (hadd1 (k + 1 + 1 + (3 * lo - 1))), .f (lx (k + 1 + 1 + (3 * lo - 1))), .go, .f (hmulL (k + 1 + 1 + (3 * lo - 1))), .f (hadd2 (k + 1 + 1 + (3 * lo - 1))), .f (co (k + 1 + 1 + (3 * lo - 1))), .f (hmul2 (k + 1 + 1 + (3 * lo - 1))), .f (hup (k + 1 + 1 + (3 * lo - 1))), .f (heq (k + 1 + 1 + (3 * lo - 1)))] rfl (by kernel_rfl)
end
end Mine

open PySem PySem.W PySem.Spec PySem.Calls PyProof.Rows
set_option Elab.async false
set_option maxRecDepth 100000
set_option linter.unusedSimpArgs false
set_option linter.unusedVariables false
namespace Mine
section
variable {Φ : PhiT} {Γ : GamT} {k : Nat} {dr : Nat → Int → Int}
noncomputable def HasE (Φ : PhiT) (f : Nat) (P : List D → Prop) : Prop := ∃ φ, Φ f = some φ ∧ ∀ k ds, k < 1000 → P ds → ∃ k', φ k ds = .ok (.bool true) k'
theorem HasE.call {f : Nat} {P : List D → Prop} (h : HasE Φ f P) {ds : List D} (k : Nat) (p : P ds) (hk : k < 1000 := by omega) : ∃ k', callE (Φ f) (.ok ds k) = .ok (.bool true) k' := by
  obtain ⟨φ, e, q⟩ := h
  rw [e]
  exact q k ds hk p
theorem law_rest (hk : k < 900) (hT : HasT Φ dr) (hd : Draws dr) (h1 : HasE Φ n_law_root_right rrP) (h2 : HasE Φ n_law_pole_right rrP) (h3 : HasE Φ n_law_quotient_right qqP) (h4 : HasE Φ n_law_beginning_right bbP) : ∃ k', retR (exL (fun ρ k s => ex Φ Γ 60 ρ k s) (B_law.drop 1) [(8155076, .val (.dict []))] k) = .ok (.bool true) k' := by
  obtain ⟨x, ex⟩ : ∃ x, dr k 4 = x := ⟨_, rfl⟩
  obtain ⟨y, ey⟩ : ∃ y, dr (k + 1) 3 = y := ⟨_, rfl⟩
  obtain ⟨z, ez⟩ : ∃ z, dr (k + 1 + 1) 5 = z := ⟨_, rfl⟩
  obtain ⟨u, eu⟩ : ∃ u, dr (k + 1 + 1 + 1) 2 = u := ⟨_, rfl⟩
  have hx := hd k 4 (by decide)
  have hy := hd (k + 1) 3 (by decide)
  have hz := hd (k + 1 + 1) 5 (by decide)
  have hu := hd (k + 1 + 1 + 1) 2 (by decide)
  have c0 := hT.call k (m := 4) (by decide)
  have c1 := hT.call (k + 1) (m := 3) (by decide)
  have c2 := hT.call (k + 1 + 1) (m := 5) (by decide)
  have c3 := hT.call (k + 1 + 1 + 1) (m := 2) (by decide)
  rw [ex] at hx c0
  rw [ey] at hy c1
  rw [ez] at hz c2
  rw [eu] at hu c3
  have iy := fun k => ixN hy k
  have iz := fun k => ix5 (a := 1048576) (b := 20) (c := 48) (d := 32) (e := 100) hz k
  have iu := fun k => ix2 (a := 1) (b := -1) hu k
  have hf : nth [1048576, 20, 48, 32, 100] z ∈ fars := nth_in (l := [1048576, 20, 48, 32, 100]) hz
  have hs : nth [1, -1] u ∈ sides := nth_in (l := [1, -1]) hu
  generalize nth [1048576, 20, 48, 32, 100] z = far at iz hf
  generalize nth [1, -1] u = side at iu hs
  have hpow : ∀ k, binD .Pow (.int 2) (.int 20) k = .ok (.int 1048576) k := fun k => by
    rw [pow_i (by decide)]
    rfl
  have q0 : ∀ k, cmpD .Eq (.int x) (.int 1) k = .ok (.bool (decide (x = 1))) k := fun k => by
    rw [eq_d rfl, eqv_i]
    by_cases h : x = 1
    · rw [h]; rfl
    · rw [decide_eq_false h, beq_eq_false_iff_ne.mpr h]
  have q2 : ∀ k, cmpD .Eq (.int x) (.int 2) k = .ok (.bool (decide (x = 2))) k := fun k => by
    rw [eq_d rfl, eqv_i]
    by_cases h : x = 2
    · rw [h]; rfl
    · rw [decide_eq_false h, beq_eq_false_iff_ne.mpr h]
  obtain ⟨k1, f1⟩ := h1.call (k + 1 + 1 + 1 + 1) ⟨y.toNat, far, side, rfl, hf, hs⟩
  obtain ⟨k2, f2⟩ := h2.call (k + 1 + 1 + 1 + 1) ⟨y.toNat, far, side, rfl, hf, hs⟩
  obtain ⟨k3, f3⟩ := h3.call (k + 1 + 1 + 1 + 1) ⟨far, side, rfl, hf, hs⟩
  obtain ⟨k4, f4⟩ := h4.call (k + 1 + 1 + 1 + 1) ⟨y.toNat, rfl⟩
  have e0 := fun k => eq_i0 (k := k) (m := x)
  by_cases x0 : x = 0
  · refine ⟨k1, ?_⟩
    have d0 := decide_eq_true x0
    exact ret_wp [.f (c0), .f (c1), .f (iy (k + 1 + 1)), .f (hpow (k + 1 + 1)), .f (c2), .f (iz (k + 1 + 1 + 1)), .f (c3), .f (iu (k + 1 + 1 + 1 + 1)), .f (e0 (k + 1 + 1 + 1 + 1)), .b (d0), .f (f1)] rfl (by kernel_rfl)
  · have d0 := decide_eq_false x0
    by_cases x1 : x = 1
    · refine ⟨k2, ?_⟩
      have d1 := decide_eq_true x1
      exact ret_wp [.f (c0), .f (c1), .f (iy (k + 1 + 1)), .f (hpow (k + 1 + 1)), .f (c2), .f (iz (k + 1 + 1 + 1)), .f (c3), .f (iu (k + 1 + 1 + 1 + 1)), .f (e0 (k + 1 + 1 + 1 + 1)), .b (d0), .f (q0 (k + 1 + 1 + 1 + 1)), .b (d1), .f (f2)] rfl (by kernel_rfl)
    · have d1 := decide_eq_false x1
      by_cases x2 : x = 2
      · refine ⟨k3, ?_⟩
        have d2 := decide_eq_true x2
        exact ret_wp [.f (c0), .f (c1), .f (iy (k + 1 + 1)), .f (hpow (k + 1 + 1)), .f (c2), .f (iz (k + 1 + 1 + 1)), .f (c3), .f (iu (k + 1 + 1 + 1 + 1)), .f (e0 (k + 1 + 1 + 1 + 1)), .b (d0), .f (q0 (k + 1 + 1 + 1 + 1)), .b (d1), .f (q2 (k + 1 + 1 + 1 + 1)), .b (d2), .f (f3)] rfl (by kernel_rfl)
      · refine ⟨k4, ?_⟩
        have d2 := decide_eq_false x2
        exact ret_wp [.f (c0), .f (c1), .f (iy (k + 1 + 1)), .f (hpow (k + 1 + 1)), .f (c2), .f (iz (k + 1 + 1 + 1)), .f (c3), .f (iu (k + 1 + 1 + 1 + 1)), .f (e0 (k + 1 + 1 + 1 + 1)), .b (d0), .f (q0 (k + 1 + 1 + 1 + 1)), .b (d1), .f (q2 (k + 1 + 1 + 1 + 1)), .b (d2), .f (f4)] rfl (by kernel_rfl)
end
end Mine

open PySem PySem.W PySem.Spec PySem.Calls PyProof.Rows
set_option Elab.async false
set_option maxRecDepth 100000
set_option linter.unusedSimpArgs false
set_option linter.unusedVariables false
namespace Mine
noncomputable def absI (x : Int) : Int := if x < 0 then -x else x
noncomputable def drF (xs : List Int) (k : Nat) (m : Int) : Int := if k + 1 ≤ xs.length then (absI (xs.getD k 0)).fmod m else (5 * ((k : Int) + 1) + ((k : Int) + 1).fdiv 3).fmod m
theorem drF_draws (xs : List Int) : Draws (drF xs) := fun k m h => by
  unfold drF
  have : ∀ x : Int, 0 ≤ x.fmod m ∧ x.fmod m < m := fun x => ⟨Int.fmod_nonneg_of_pos _ h, Int.fmod_lt_of_pos _ h⟩
  split
  · exact this _
  · exact this _
section
variable {Φ : PhiT} {Γ : GamT} {k0 : Nat}
theorem take_rest {xs : List Int} {k : Nat} {m : Int} (hx : xs.length ≤ 1000) (hk : k < 2000) (hm : 0 < m) : retR (exL (fun ρ k s => ex Φ Γ 60 ρ k s) (B_law_take.drop 1) [(8155076, .val (.list [.list (xs.map .int), .int ((k : Int) + 1)])), (1048011226, .val (.int m))] k0) = .ok (.int (drF xs k m)) k0 := by
  have hlen : ∀ k0, biD .len [.list (xs.map .int)] k0 = .ok (.int (xs.length : Nat)) k0 := fun k0 => by
    rw [bi_lenl' (by rw [List.length_map]; omega), List.length_map]
  have hmod : ∀ x k0, binD .Mod (.int x) (.int m) k0 = .ok (.int (x.fmod m)) k0 := fun x k0 => mod_i (by omega)
  have h5 : ∀ k0, binD .Mult (.int 5) (.int ((k : Int) + 1)) k0 = .ok (.int (5 * ((k : Int) + 1))) k0 := fun k0 => mul_i (mulOk_sm (by decide) (show ((k : Int) + 1).natAbs < _ from Nat.lt_trans (show ((k : Int) + 1).natAbs < 5000 by omega) (by decide)))
  have h3 : ∀ k0, binD .FloorDiv (.int ((k : Int) + 1)) (.int 3) k0 = .ok (.int (((k : Int) + 1).fdiv 3)) k0 := fun k0 => div_i ⟨by decide, pyl (by decide)⟩
  unfold drF
  by_cases h : k + 1 ≤ xs.length
  · rw [if_pos h]
    have h' : decide ((k : Int) + 1 ≤ (xs.length : Nat)) = true := decide_eq_true (by omega)
    have e : ∀ k0, binD .Sub (.int ((k : Int) + 1)) (.int 1) k0 = .ok (.int (k : Int)) k0 := fun k0 => by rw [sub_i, show ((k : Int) + 1 - 1) = (k : Int) by omega]
    have hix : ∀ k0, idxD (.list (xs.map .int)) (.int (k : Int)) k0 = .ok (.int (xs.getD k 0)) k0 := fun k0 => by
      refine ix_l ⟨by omega, by omega⟩ ?_
      rw [Int.toNat_natCast, List.getElem?_map, List.getElem?_eq_getElem (by omega)]
      simp [List.getD, List.getElem?_eq_getElem (show k < xs.length by omega)]
    have hm1 := hmod (absI (xs.getD k 0)) k0
    exact ret_wp [.go, .go, .f (hlen k0), .go, .b (h'), .go, .go, .f (e k0), .f (hix k0), .go, .f (hm1)] rfl (by kernel_rfl)
  · rw [if_neg h]
    have h' : decide ((k : Int) + 1 ≤ (xs.length : Nat)) = false := decide_eq_false (by omega)
    have hm1 := hmod (5 * ((k : Int) + 1) + ((k : Int) + 1).fdiv 3) k0
    exact ret_wp [.go, .go, .f (hlen k0), .go, .b (h'), .go, .f (h5 k0), .go, .f (h3 k0), .go, .f (hm1)] rfl (by kernel_rfl)
theorem retR_ok {r : RzS} {i : Int} {k : Nat} (h : retR r = .ok (.int i) k) : ∃ ρ, r = .ok (.ret (.int i), ρ) k := by
  unfold retR at h
  split at h
  · cases h
    exact ⟨_, rfl⟩
  · cases h
  · cases h
  · cases h
theorem retR_okb {r : RzS} {i : Bool} {k : Nat} (h : retR r = .ok (.bool i) k) : ∃ ρ, r = .ok (.ret (.bool i), ρ) k := by
  unfold retR at h
  split at h
  · cases h
    exact ⟨_, rfl⟩
  · cases h
  · cases h
  · cases h
end
end Mine

open PySem PySem.W PySem.Spec PySem.Calls PyProof.Rows
set_option Elab.async false
set_option maxRecDepth 100000
set_option linter.unusedVariables false
namespace Mine

theorem Act.less {A : Around} {FL : List Addr} {n n' : Nat} {h : Heap} (a : Act A FL n' h) (q : n ≤ n') : Act A FL n h :=
  ⟨a.hd, a.fr, a.ns, by have := a.dep; omega, by have := a.uni; omega⟩
noncomputable abbrev Fun := Nat → List D → Rz D
noncomputable abbrev Item := Nat × Addr × (Fun → Prop)

section
variable {prog : Program} {w : World} {K : Frag} {bx : Bx} {hb : Heap} {C : Addr}
theorem Con.more {n n' : Nat} {xc : Prop} {f : Addr} {φ : Fun} (c : Con prog w hb C bx xc n f φ) (q : n ≤ n') : Con prog w hb C bx xc n' f φ :=
  fun A FL X s vs ds k act => c A FL X s vs ds k (act.less q)

/-- what is known of the text's functions, with room for nn frames -/
noncomputable def Kn (prog : Program) (w : World) (K : Frag) (hb : Heap) (C : Addr) (bx : Bx) (nn : Nat) (l : List Item) : Prop :=
  ∀ t a Q, l.lookup t = some (a, Q) → ∃ x, tok x = t ∧ nsIn K mainGlobals x = some (some (.ref a)) ∧ keepIn K (.ref a) = true ∧ ∃ φ, Con prog w hb C bx False nn a φ ∧ Q φ
/-- the table holds what the list tells -/
noncomputable def Tab (Φ : PhiT) (l : List Item) : Prop := ∀ t a Q, l.lookup t = some (a, Q) → ∃ φ, Φ t = some φ ∧ Q φ
theorem Kn.more {n n' : Nat} {l : List Item} (h : Kn prog w K hb C bx n l) (q : n ≤ n') : Kn prog w K hb C bx n' l := fun t a Q e => by
  obtain ⟨x, e1, e2, e3, φ, c, hq⟩ := h t a Q e
  exact ⟨x, e1, e2, e3, φ, c.more q, hq⟩
theorem Kn.nil {n : Nat} : Kn prog w K hb C bx n [] := fun t a Q e => by cases e
open Classical in
theorem Kn.phi {n : Nat} {l : List Item} (h : Kn prog w K hb C bx n l) : ∃ Φ : PhiT, (∀ f φ, Φ (tok f) = some φ → ∃ a, nsIn K mainGlobals f = some (some (.ref a)) ∧ keepIn K (.ref a) = true ∧ Con prog w hb C bx False n a φ) ∧ Tab Φ l := by
  let R : Nat → Fun → Prop := fun t φ => ∃ a Q x, l.lookup t = some (a, Q) ∧ tok x = t ∧ nsIn K mainGlobals x = some (some (.ref a)) ∧ keepIn K (.ref a) = true ∧ Con prog w hb C bx False n a φ ∧ Q φ
  refine ⟨fun t => if q : ∃ φ, R t φ then some (choose q) else none, fun f φ e => ?_, fun t a Q e => ?_⟩
  · dsimp only at e
    split at e
    case isFalse => cases e
    rename_i q
    have hs := choose_spec q
    rw [Option.some.inj e] at hs
    obtain ⟨a, Q, x, e1, e2, e3, e4, e5, e6⟩ := hs
    rw [tok_inj e2] at e3
    exact ⟨a, e3, e4, e5⟩
  · obtain ⟨x, e1, e2, e3, φ, c, hq⟩ := h t a Q e
    have q : ∃ φ, R t φ := ⟨φ, a, Q, x, e, e1, e2, e3, c, hq⟩
    obtain ⟨a', Q', x', f1, f2, f3, f4, f5, f6⟩ := choose_spec q
    rw [e] at f1
    cases f1
    exact ⟨choose q, dif_pos q, f6⟩

/-- what all the levels stand on -/
structure Base (prog : Program) (w : World) (K : Frag) (hb : Heap) (bx : Bx) (Γ : GamT) : Prop where
  kin : K.In hb
  top : ∃ p loose mg mb, TopRead p loose mg mb hb
  gam : ∀ x d, Γ (tok x) = some d → ∃ v, nsIn K mainGlobals x = some (some v) ∧ ∀ (X : Addr → Prop) (h : Heap), (∀ a, X a → hb.get? a = none) → (∀ b o, hb.get? b = some o → h.get? b = some o) → Rep bx X h v d
  blt : ∀ x, ((biOf x).isSome = true ∨ x = ("range" : Str)) → nsIn K mainGlobals x = some none
  lim : hb.NoLimit
theorem Kn.gl {n : Nat} {l : List Item} {Γ : GamT} (B : Base prog w K hb bx Γ) (h : Kn prog w K hb C bx n l) : ∃ Φ, Gl prog w K hb C bx False n Φ Γ ∧ Tab Φ l := by
  obtain ⟨Φ, h1, h2⟩ := h.phi
  exact ⟨Φ, ⟨B.kin, B.top, h1, B.gam, B.blt⟩, h2⟩
theorem Kn.put {n : Nat} {l : List Item} {t : Nat} {a : Addr} {Q : Fun → Prop} {x : Str} {φ : Fun} (h : Kn prog w K hb C bx n l) (e1 : tok x = t) (e2 : nsIn K mainGlobals x = some (some (.ref a))) (e3 : keepIn K (.ref a) = true) (c : Con prog w hb C bx False n a φ) (hq : Q φ) : Kn prog w K hb C bx n ((t, a, Q) :: l) := fun t' a' Q' e => by
  rw [List.lookup_cons] at e
  split at e
  · rename_i q
    cases e
    rw [beq_iff_eq] at q
    subst q
    exact ⟨x, e1, e2, e3, φ, c, hq⟩
  · exact h _ _ _ e
theorem Kn.step {nn n m : Nat} {l : List Item} {Γ : GamT} (G : Base prog w K hb bx Γ) (h : Kn prog w K hb C bx nn l) {f : Addr} {name qual : Str} {params : Arguments} {body : List Stmt} {scope : Scope} {dV kV doc pm cdv ct oc : Value} {an od : Option Addr} {osl : Array (Option Value)} {ps : List Str} {B : List S} {t : Nat} {Q : Fun → Prop}
    (ho : K.lookup f = some ⟨oc, od, .func (fnOf name qual params body scope dV kV doc pm an cdv ct), osl⟩) (hcd : codeIn K cdv qual = true)
    (hbind : ∀ vs : List Value, vs.length = ps.length → bindArgs (fnOf name qual params body scope dV kV doc pm an cdv ct) ⟨vs, []⟩ = pure (ps.zip vs)) (hsc : scOk scope ps = true) (hB : body.map (erS m scope.names) = B)
    (e1 : tok name = t) (e2 : nsIn K mainGlobals name = some (some (.ref f))) (e3 : keepIn K (.ref f) = true)
    (hq : ∀ Φ, Tab Φ l → Q (runB Φ Γ n (ps.map tok) B)) : Kn prog w K hb C bx (nn + 1) ((t, f, Q) :: l) := by
  obtain ⟨Φ, hG, hT⟩ := h.gl G
  exact (h.more (Nat.le_succ _)).put e1 e2 e3 (con_of hG (fun z => z.elim) (fun z => z.elim) G.lim ho hcd hbind hsc hB) (hq Φ hT)
end
end Mine

open PySem PySem.W PySem.Spec PySem.Calls PyProof.Rows
set_option Elab.async false
set_option maxRecDepth 100000
set_option linter.unusedVariables false
namespace Mine

/-- what stands once a list's member has been stored -/
theorem put_any {prog : Program} {w : World} {A : Around} {E : Value → Shared → Prop} {s : Shared} {b : Addr} {items : Array Value} {n : Nat} {v : Value} {k : Int} {t : Tok} {Q : Unit → Shared → Prop}
    (ho : s.heap.get? b = some { cls := .type "list", data := .seq items n }) (h0 : 0 ≤ k) (hfit : k < 2 ^ 63) (hn : k < items.size)
    (hQ : Q () { s with heap := s.heap.update b (Obj.mapSeq (·.setIfInBounds k.toNat v)) }) :
    wpAny (model prog w) A (setItem (.ref b) (.int k t) v) Q E s := by
  have hl : s.heap.IsList b items := ⟨_, ho, rfl, n, rfl⟩
  unfold setItem
  refine wpAny_holding (wpAny_bind (wpAny_sequenceKey hl.typeIs (by decide) (wpAny_bind (wpAny_callSpecial?_slot (name := Str.ofString "__setitem__") hl.typeIs slot_list_setitem
    (wpAny_call_entry slot_list_setitem hl.typeIs entry_list_setitem ?_ (args_list_setitem _ _ _))))))
  show wpAny _ _ (Builtin.List.listSubscript? (.int k t) >>= _) _ _ s
  refine wpAny_bind (wpAny_listSubscript_int (fitsIndex_of h0 hfit) ?_)
  obtain ⟨j, rfl⟩ := Int.eq_ofNat_of_zero_le h0
  show wpAny _ _ ((seqItemAt b j >>= fun r => pure (r.map (j, ·))) >>= _) _ _ s
  refine wpAny_bind (wpAny_bind (wpAny_seqItemAt ho rfl (wpAny_pure ?_)))
  rw [Array.getElem?_eq_getElem (show j < items.size by omega)]
  show wpAny _ _ (setSeqItemAt b j v >>= _) _ _ s
  refine wpAny_bind (wpAny_setSeqItemAt ho rfl ?_)
  first
    | exact wpAny_bind (wpAny_pure (wpAny_pure ⟨.none, rfl, wpAny_pure hQ⟩))
    | exact wpAny_pure ⟨.none, rfl, wpAny_pure hQ⟩
theorem put_heap {h : Heap} {b : Addr} {x y v : Value} {n : Nat} (ho : h.get? b = some { cls := .type "list", data := .seq #[x, y] n }) :
    (h.update b (Obj.mapSeq (·.setIfInBounds (1 : Int).toNat v))).get? b = some { cls := .type "list", data := .seq #[x, v] n } :=
  Heap.get?_update_self _ ho rfl

end Mine

open PySem PySem.W PySem.Spec PySem.Calls PyProof.Rows
set_option Elab.async false
set_option maxRecDepth 100000
set_option linter.unusedVariables false
namespace Mine

noncomputable def takeF (xs : List Int) : Fun := fun k ds => match ds with
  | [.dict [], .int m] => if k < 2000 ∧ 0 < m ∧ m ≤ 100 then .ok (.int (drF xs k m)) (k + 1) else .stuck
  | _ => .stuck
noncomputable abbrev Φ0 : PhiT := fun _ => none
noncomputable abbrev Γ0 : GamT := fun _ => none

theorem ns_same {h h' : Heap} {c : Addr} {m : Str → Option Value} (e : h'.get? c = h.get? c) (x : h.Ns c m) : h'.Ns c m := by
  obtain ⟨o, es, ep, h1, r⟩ := x
  exact ⟨o, es, ep, e.trans h1, r⟩
theorem repL_ints {bx : Bx} {X : Addr → Prop} {h : Heap} : ∀ {vs : List Value} {xs : List Int}, IntsAre vs xs → RepL bx X h vs (xs.map .int)
  | _, _, .nil => .nil
  | _, _, .cons n t r => .cons (.int n t) (repL_ints r)
theorem rep_int {bx : Bx} {X : Addr → Prop} {h : Heap} {v : Value} {i : Int} (r : Rep bx X h v (.int i)) : ∃ t, v = .int i t := by
  cases r with
  | int i t => exact ⟨t, rfl⟩
theorem rep_box {b : Addr} {p : Addr × List Int} {X : Addr → Prop} {h : Heap} {v : Value} (r : Rep (some (b, p)) X h v (.dict [])) : v = .ref b := by
  cases r with
  | box e => cases e; rfl

section
variable {prog : Program} {w : World} {K : Frag} {hb : Heap} {C : Addr} {nn : Nat} {b l : Addr} {xs : List Int}

/-- the world in which the box is a list as others are -/
theorem plain_view {A : Around} {FL : List Addr} {X : Addr → Prop} {s : Shared} {k : Nat} {ε : Env} {ρ : Rho} {xb xm : Str} {mm : Int} {t : Tok}
    (c : Cx (some (b, l, xs)) hb A FL nn X s k) (V : Vw (some (b, l, xs)) FL X ε ε.scope.names s.heap ρ) (eb : tok xb = 8155076) (em : tok xm = 1048011226)
    (Hb : Holds ε s.heap xb (.ref b)) (Hm : Holds ε s.heap xm (.int mm t)) :
    Cx none hb A FL nn (fun a => X a ∧ a ≠ b ∧ a ≠ l) s 0 ∧ Vw none FL (fun a => X a ∧ a ≠ b ∧ a ≠ l) ε ε.scope.names s.heap [(8155076, .val (.list [.list (xs.map .int), .int (k : Int)])), (1048011226, .val (.int mm))] := by
  obtain ⟨n, vl, nl, tk, h1, h2, h3, h4⟩ := c.wd.box
  have nf : ∀ a (o : Obj), s.heap.get? a = some o → (∀ es ep, o.data ≠ .dict es ep) → a ∉ FL := fun a o q nd m => by
    obtain ⟨_, o', es, ep, q', hd, _⟩ := c.act.ns a m
    rw [q] at q'; cases q'
    exact nd _ _ hd
  have nb := nf _ _ h1 (by intro _ _ z; cases z)
  have nl' := nf _ _ h2 (by intro _ _ z; cases z)
  refine ⟨⟨c.act, ⟨c.wd.base, fun a m => ⟨c.wd.flb a m, fun q => nb (q ▸ m), fun q => nl' (q ▸ m)⟩, fun a q => c.wd.xok a q.1, trivial, fun _ _ z => by cases z⟩, c.fl⟩,
    ⟨V.ek, V.eg, V.eb, V.fr, V.glo, V.cel, fun x d hv q => ?_, fun x l' hv q => ?_⟩⟩
  · by_cases e1 : tok x = 8155076
    · have ex : x = xb := tok_inj (e1.trans eb.symm)
      subst ex
      rw [e1] at q
      cases q
      refine ⟨.ref b, Hb, .lst (vs := [.ref l, .int (k : Int) tk]) (n := n) (fun z => z.2.1 rfl) h1 (.cons (.lst (vs := vl.toList) (n := nl) (fun z => z.2.2 rfl) (by simpa using h2) (repL_ints h3)) (.cons (.int _ _) .nil))⟩
    · by_cases e2 : tok x = 1048011226
      · have ex : x = xm := tok_inj (e2.trans em.symm)
        subst ex
        rw [e2] at q
        cases q
        exact ⟨_, Hm, .int _ _⟩
      · rw [List.lookup_cons, beq_eq_false_iff_ne.mpr e1, List.lookup_cons, beq_eq_false_iff_ne.mpr e2] at q
        cases q
  · by_cases e1 : tok x = 8155076
    · rw [e1] at q; cases q
    · by_cases e2 : tok x = 1048011226
      · rw [e2] at q; cases q
      · rw [List.lookup_cons, beq_eq_false_iff_ne.mpr e1, List.lookup_cons, beq_eq_false_iff_ne.mpr e2] at q
        cases q

variable {f : Addr} {name qual : Str} {params : Arguments} {body rest : List Stmt} {scope : Scope} {dV kV doc pm cdv ct oc : Value} {an od : Option Addr} {osl : Array (Option Value)} {xb xm : Str} {p1 p2 p3 pos : Pos} {kd m : Nat} {e : PySem.Expr}

theorem take_con (kin : K.In hb) (top : ∃ p loose mg mb, TopRead p loose mg mb hb) (blt : ∀ x, ((biOf x).isSome = true ∨ x = ("range" : Str)) → nsIn K mainGlobals x = some none) (hlim : hb.NoLimit)
    (ho : K.lookup f = some ⟨oc, od, .func (fnOf name qual params body scope dV kV doc pm an cdv ct), osl⟩) (hcd : codeIn K cdv qual = true)
    (hbind : ∀ vs : List Value, vs.length = ([xb, xm] : List Str).length → bindArgs (fnOf name qual params body scope dV kV doc pm an cdv ct) ⟨vs, []⟩ = pure (([xb, xm] : List Str).zip vs)) (hsc : scOk scope [xb, xm] = true)
    (hx : xs.length ≤ 1000) (hbody : body = .Assign [.Subscript (.Name xb p1) (.Constant (.int 1) kd p2) p3] e pos :: rest)
    (hsw : ∀ ε, swapsWith e (some (.Subscript (.Name xb p1) (.Constant (.int 1) kd p2) p3)) pos.line ε = pure false)
    (eb : tok xb = 8155076) (em : tok xm = 1048011226) (vb : vis scope.names xb = true) (vm : vis scope.names xm = true)
    (he : er m scope.names e = .bin .Add (.idx (.var 8155076) (.int 1)) (.int 1)) (hn : er m scope.names (.Name xb p1) = .var 8155076) (hc : er m scope.names (.Constant (.int 1) kd p2) = .int 1)
    (hr : rest.map (erS m scope.names) = B_law_take.drop 1) :
    Con prog w hb C (some (b, l, xs)) False (nn + 1) f (takeF xs) := by
  intro A FL X s vs ds k act wd hfl rl hg
  unfold takeF at hg ⊢
  split at hg
  case h_2 => exact hg.elim
  rename_i ds' mm
  split at hg
  case isFalse => exact hg.elim
  rename_i hk
  rw [if_pos hk]
  refine call_of kin hlim ho hcd hbind hsc act wd hfl rl rfl fun ε s' X' hsc' hrs hkp hX2 T => ?_
  have hρ : putAll (([xb, xm] : List Str).map tok) [.dict [], .int mm] [] = [(8155076, .val (.dict [])), (1048011226, .val (.int mm))] := by
    rw [List.map_cons, List.map_cons, List.map_nil, eb, em]
    rfl
  rw [hρ] at T
  rw [hbody]
  have GS : Gl prog w K hb C (some (b, l, xs)) False nn Φ0 Γ0 := ⟨kin, top, (fun f φ e => by cases e), (fun x d e => by cases e), blt⟩
  have GN : Gl prog w K hb C none False nn Φ0 Γ0 := ⟨kin, top, (fun f φ e => by cases e), (fun x d e => by cases e), blt⟩
  rw [← hsc'] at vb vm he hn hc hr
  have HN := (ev_sound (A := A.deeper ε) (FL := s.heap.objs.size :: FL) GN (fun z => z.elim) 10).1
  have HS := (ev_sound (A := A.deeper ε) (FL := s.heap.objs.size :: FL) GS (fun z => z.elim) 10).1
  obtain ⟨vb', Hb, Rb⟩ := T.vw.vars xb (.dict []) vb (by rw [eb]; rfl)
  obtain rfl := rep_box Rb
  obtain ⟨vm', Hm, Rm⟩ := T.vw.vars xm (.int mm) vm (by rw [em]; rfl)
  obtain ⟨tm, rfl⟩ := rep_int Rm
  obtain ⟨n, vl, nl, tk, h1, h2, h3, h4⟩ := T.cx.wd.box
  have nf : ∀ (s₁ : Shared), (∀ L ∈ (s.heap.objs.size :: FL), ∃ m, s₁.heap.Ns L m) → ∀ a (o : Obj), s₁.heap.get? a = some o → (∀ es ep, o.data ≠ .dict es ep) → a ∉ (s.heap.objs.size :: FL) := fun s₁ hns a o q nd m => by
    obtain ⟨_, o', es, ep, q', hd, _⟩ := hns a m
    rw [q] at q'; cases q'
    exact nd _ _ hd
  have nbF := nf s' T.cx.act.ns _ _ h1 (by intro _ _ z; cases z)
  have nlF := nf s' T.cx.act.ns _ _ h2 (by intro _ _ z; cases z)
  obtain ⟨cN, vN⟩ := plain_view T.cx T.vw eb em Hb Hm
  have ev1 : ev Φ0 Γ0 10 .val [(8155076, .val (.list [.list (xs.map .int), .int (k : Int)])), (1048011226, .val (.int mm))] 0 (er m ε.scope.names e) = .ok (.int ((k : Int) + 1)) 0 := by
    rw [he]; rfl
  have ev2 : ev Φ0 Γ0 10 .val [(8155076, .val (.dict [])), (1048011226, .val (.int mm))] k (er m ε.scope.names (.Name xb p1)) = .ok (.dict []) k := by
    rw [hn]; rfl
  have ev3 : ev Φ0 Γ0 10 .val [(8155076, .val (.dict [])), (1048011226, .val (.int mm))] k (er m ε.scope.names (.Constant (.int 1) kd p2)) = .ok (.int 1) k := by
    rw [hc]; rfl
  have noE : ∀ {α : Type} {A' : α} {k' : Nat} {bx' : Bx} {FL' : List Addr} {s₁ s₂ : Shared} {e : Value} {P : Prop}, PE C bx' FL' s₁ (.ok A' k') e s₂ → P := fun h => by
    obtain ⟨_, _, _, e1, _⟩ := h
    cases e1
  have W1 := HN m _ ε _ e _ s' 0 cN vN (by rw [ev1]; trivial)
  rw [ev1] at W1
  refine wpAny_execs_cons (wpAny_Assign_Subscript (wpAny_mono W1 (fun v s₁ hq => ?_) fun e s'' h => noE h) (hsw ε))
  obtain ⟨d1, k1, e1, st1, r1⟩ := hq
  cases e1
  obtain ⟨t1, rfl⟩ := rep_int r1
  have st1' : Step (some (b, l, xs)) (s.heap.objs.size :: FL) s' s₁ k := by
    obtain ⟨h', tk', e0, x, _⟩ := st1
    subst e0
    exact ⟨h', tk', rfl, ⟨fun c o q n _ => x.keep c o q n (by intro _ z; cases z), x.ns⟩, n, vl, nl, tk, x.keep _ _ h1 nbF (by intro _ z; cases z), x.keep _ _ h2 nlF (by intro _ z; cases z), h3, h4⟩
  have T1 := T.step st1'
  have W2 := HS m _ ε _ (.Name xb p1) _ s₁ k T1.cx T1.vw (by rw [ev2]; trivial)
  rw [ev2] at W2
  refine wpAny_mono W2 (fun v2 s₂ hq => ?_) fun e s'' h => noE h
  obtain ⟨d2, k2, e2, st2, r2⟩ := hq
  cases e2
  obtain rfl := rep_box r2
  have T2 := T1.step st2
  have W3 := HS m _ ε _ (.Constant (.int 1) kd p2) _ s₂ k T2.cx T2.vw (by rw [ev3]; trivial)
  rw [ev3] at W3
  refine wpAny_mono W3 (fun v3 s₃ hq => ?_) fun e s'' h => noE h
  obtain ⟨d3, k3, e3, st3, r3⟩ := hq
  cases e3
  obtain ⟨t3, rfl⟩ := rep_int r3
  have T3 := T2.step st3
  obtain ⟨n3, vl3, nl3, tk3, g1, g2, g3, g4⟩ := T3.cx.wd.box
  refine put_any g1 (by decide) (by decide) (show (1 : Int) < ((2 : Nat) : Int) by decide) ?_
  have ek : ((k + 1 : Nat) : Int) = (k : Int) + 1 := by omega
  rw [← ek]
  generalize hH4 : s₃.heap.update b (Obj.mapSeq (·.setIfInBounds (1 : Int).toNat (.int ((k + 1 : Nat) : Int) t1))) = H4
  have hH4b : H4.get? b = some { cls := .type "list", data := .seq #[.ref l, .int ((k + 1 : Nat) : Int) t1] n3 } := by
    rw [← hH4]; exact put_heap g1
  have hH4o : ∀ c, c ≠ b → H4.get? c = s₃.heap.get? c := fun c hc' => by
    rw [← hH4]; exact Heap.get?_update_other _ _ (Ne.symm hc')
  clear hH4
  have nsb : ∀ c m, s₃.heap.Ns c m → c ≠ b := fun c m q z => by
    obtain ⟨o, es, ep, q1, q2, _⟩ := q
    rw [z, g1] at q1; cases q1
    cases q2
  have nbF3 := nf s₃ T3.cx.act.ns _ _ g1 (by intro _ _ z; cases z)
  have nlF3 := nf s₃ T3.cx.act.ns _ _ g2 (by intro _ _ z; cases z)
  have hbn : hb.get? b = none := (T3.cx.wd.xok b (T3.cx.wd.bxx b (l, xs) rfl)).1
  -- the box stands at its next draw
  have c4 : Cx (some (b, l, xs)) hb (A.deeper ε) (s.heap.objs.size :: FL) nn X' { s₃ with heap := H4 } (k + 1) :=
    ⟨⟨T3.cx.act.hd, T3.cx.act.fr, fun L hL => by
        obtain ⟨mm', q⟩ := T3.cx.act.ns L hL
        exact ⟨mm', ns_same (hH4o L (nsb L mm' q)) q⟩, T3.cx.act.dep, T3.cx.act.uni⟩,
      ⟨fun c o q => by
          rw [show ({ s₃ with heap := H4 } : Shared).heap = H4 from rfl, hH4o c (fun z => by rw [z, hbn] at q; cases q)]
          exact T3.cx.wd.base c o q, T3.cx.wd.flb, fun a q => ⟨(T3.cx.wd.xok a q).1, by
          by_cases z : a = b
          · subst z; exact ⟨_, hH4b⟩
          · obtain ⟨o, q'⟩ := (T3.cx.wd.xok a q).2
            exact ⟨o, (hH4o a z).trans q'⟩⟩, ⟨n3, vl3, nl3, t1, hH4b, (hH4o l g4).trans g2, g3, g4⟩, T3.cx.wd.bxx⟩, T3.cx.fl⟩
  have hold : ∀ x v, Holds ε s₃.heap x v → Holds ε H4 x v := fun x v H => by
    rcases H with ⟨q1, m', q2, q3⟩ | ⟨q1, c, o, q2, q3, q4⟩
    · exact .inl ⟨q1, m', ns_same (hH4o _ (nsb _ _ q2)) q2, q3⟩
    · refine .inr ⟨q1, c, o, q2, (hH4o c fun z => ?_).trans q3, q4⟩
      rw [z, g1] at q3; cases q3
      cases q4
  have rep4 : ∀ {v d}, Rep (some (b, l, xs)) X' s₃.heap v d → Rep (some (b, l, xs)) X' H4 v d := fun r => r.map (fun a o q e => ⟨q, (hH4o a fun z => q (z ▸ T3.cx.wd.bxx b (l, xs) rfl)).trans e⟩) fun _ _ z => z
  have V4 : Vw (some (b, l, xs)) (s.heap.objs.size :: FL) X' ε ε.scope.names H4 [(8155076, .val (.dict [])), (1048011226, .val (.int mm))] :=
    ⟨T3.vw.ek, T3.vw.eg, T3.vw.eb, T3.vw.fr, T3.vw.glo, T3.vw.cel, fun x d hv q => by
        obtain ⟨v, q1, q2⟩ := T3.vw.vars x d hv q
        exact ⟨v, hold _ _ q1, rep4 q2⟩, fun x l' hv q => by
        by_cases z1 : tok x = 8155076
        · rw [z1] at q; cases q
        · by_cases z2 : tok x = 1048011226
          · rw [z2] at q; cases q
          · rw [List.lookup_cons, beq_eq_false_iff_ne.mpr z1, List.lookup_cons, beq_eq_false_iff_ne.mpr z2] at q
            cases q⟩
  have Hb3 : Holds ε s₃.heap xb (.ref b) := by
    obtain ⟨v, q1, q2⟩ := T3.vw.vars xb (.dict []) vb (by rw [eb]; rfl)
    rw [rep_box q2] at q1
    exact q1
  obtain ⟨vm3, Hm3, Rm3⟩ := T3.vw.vars xm (.int mm) vm (by rw [em]; rfl)
  obtain ⟨tm3, rfl⟩ := rep_int Rm3
  obtain ⟨cN4, vN4⟩ := plain_view c4 V4 eb em (hold _ _ Hb3) (hold _ _ Hm3)
  rw [ek] at vN4
  -- what stood at the call, but for the box
  obtain ⟨n0, vl0, nl0, tk0, q1, q2, q3, q4⟩ := wd.box
  generalize hHc : s.heap.update b (fun _ => { cls := .type "list", data := .seq #[.ref l, .int ((k + 1 : Nat) : Int) t1] n3 }) = Hc
  have hHcb : Hc.get? b = some { cls := .type "list", data := .seq #[.ref l, .int ((k + 1 : Nat) : Int) t1] n3 } := by
    rw [← hHc]; exact Heap.get?_update_self _ q1 rfl
  have hHco : ∀ c, c ≠ b → Hc.get? c = s.heap.get? c := fun c hc' => by
    rw [← hHc]; exact Heap.get?_update_other _ _ (Ne.symm hc')
  clear hHc
  have nbF0 : b ∉ FL := fun z => nbF3 (.tail _ z)
  have nlF0 : l ∉ FL := fun z => nlF3 (.tail _ z)
  have hLb : s.heap.objs.size ≠ b := fun z => by
    have := T3.gL.2
    rw [z, q1] at this; cases this
  have hLl : s.heap.objs.size ≠ l := fun z => by
    have := T3.gL.2
    rw [z, q2] at this; cases this
  have T4 : St none hb (A.deeper ε) FL s.heap.objs.size nn (fun _ => False) Hc (g0 none FL Hc) ε { s₃ with heap := H4 } 0 [(8155076, .val (.list [.list (xs.map .int), .int ((k : Int) + 1)])), (1048011226, .val (.int mm))] (fun a => X' a ∧ a ≠ b ∧ a ≠ l) (fun _ => 0) := by
    have noOwn : ∀ x l', ([(8155076, .val (.list [.list (xs.map .int), .int ((k : Int) + 1)])), (1048011226, .val (.int mm))] : Rho).lookup (tok x) ≠ some (.own l') := fun x l' q => by
      by_cases z1 : tok x = 8155076
      · rw [z1] at q; cases q
      · by_cases z2 : tok x = 1048011226
        · rw [z2] at q; cases q
        · rw [List.lookup_cons, beq_eq_false_iff_ne.mpr z1, List.lookup_cons, beq_eq_false_iff_ne.mpr z2] at q
          cases q
    have g0s : ∀ c o, g0 none FL Hc c = some o → c ∉ FL ∧ Hc.get? c = some o := fun c o q => by
      unfold g0 at q
      split at q
      · cases q
      · rename_i z
        exact ⟨z, q⟩
    refine ⟨cN4, vN4, T3.loc, T3.frm, ⟨fun c o q => ?_, fun c hc' m' q => ?_, fun c q => ?_⟩, fun c o q => ⟨(g0s c o q).1, by intro _ z; cases z⟩, fun c o q => (g0s c o q).2, fun _ z => z.elim, ⟨?_, ?_⟩, T3.abv, T3.lfo, fun x c q => ?_, T3.inj, fun x l' hv q => absurd q (noOwn x l'), fun x y l1 l2 hv1 hv2 q => absurd q (noOwn x l1), fun _ _ _ z => by cases z⟩
    · obtain ⟨z1, z2⟩ := g0s c o q
      by_cases z : c = b
      · subst z; rw [hHcb] at z2; cases z2; exact hH4b
      · rw [hHco c z] at z2
        refine (hH4o c z).trans (T3.kp.g0 c o ?_)
        unfold g0
        rw [if_neg z1]
        dsimp only
        rw [if_neg z]
        exact z2
    · have z : c ≠ b := fun z => nbF0 (z ▸ hc')
      have q' := T3.kp.n0 c hc' m' (ns_same (hHco c z).symm q)
      exact ns_same (hH4o c z) q'
    · have z : c ≠ b := fun z => by
        have q' : H4.get? c = none := q
        rw [z, hH4b] at q'; cases q'
      rw [hHco c z]
      exact T3.kp.old c ((hH4o c z).symm.trans q)
    · unfold g0
      rw [if_neg T3.lfo]
      exact (hHco _ hLb).trans T3.gL.2
    · exact (hHco _ hLb).trans T3.gL.2
    · obtain ⟨z1, z2, z3, o, v, z4, z5⟩ := T3.cells x c q
      have zb : c ≠ b := fun z => by rw [z, q1] at z3; cases z3
      have zl : c ≠ l := fun z => by rw [z, q2] at z3; cases z3
      refine ⟨⟨z1, zb, zl⟩, ?_, (hHco c zb).trans z3, o, v, (hH4o c zb).trans z4, z5⟩
      unfold g0
      split
      · rfl
      · exact (hHco c zb).trans z3
  obtain ⟨ρ', er⟩ := retR_ok (take_rest (Φ := Φ0) (Γ := Γ0) (k0 := 0) hx hk.1 hk.2.1)
  rw [← hr] at er
  refine wpAny_mono (exL_sound (C := C) (m := m) (ex_sound GN (fun z => z.elim) (fun z => z.elim) 60) rest _ 0 _ _ _ T4 (by rw [er]; trivial)) (fun fl s'' hq => ?_) fun e s'' ⟨_, _, _, e1, _⟩ => by rw [er] at e1; cases e1
  rw [er] at hq
  cases fl with
  | next => obtain ⟨_, _, _, _, e1, _⟩ := hq; cases e1
  | brk => exact hq.elim
  | cont => exact hq.elim
  | ret v =>
    obtain ⟨d, ρ'', k', e1, o, rp, rs⟩ := hq
    cases e1
    obtain ⟨tv, rfl⟩ := rep_int rp
    have R : Rest s s'' := by
      obtain ⟨_, _, z1⟩ := hrs.trans (st1'.rest.trans (st2.rest.trans st3.rest))
      obtain ⟨_, _, z2⟩ := rs
      exact ⟨_, _, by rw [z2, z1]⟩
    obtain ⟨h9, t9, e9⟩ := R
    have e9h : s''.heap = h9 := by rw [e9]
    have kb : ∀ c o', Hc.get? c = some o' → c ∉ FL → s''.heap.get? c = some o' := fun c o' q nf' => o.kp.g0 c o' (by
      unfold g0
      rw [if_neg nf']
      exact q)
    refine ⟨_, _, rfl, ⟨h9, t9, e9, ⟨fun c o' q nf' nb' => ?_, fun c m' q => ?_⟩, n3, vl0, nl0, t1, ?_, ?_, q3, q4⟩, .int _ _⟩
    · rw [← e9h]
      exact kb c o' ((hHco c fun z => nb' (l, xs) (by rw [z])).trans q) nf'
    · rw [← e9h]
      have zb : c ≠ b := fun z => by
        obtain ⟨o', es, ep, z1, z2, _⟩ := q
        rw [z, q1] at z1; cases z1
        cases z2
      by_cases nf' : c ∈ FL
      · exact o.kp.n0 c nf' m' (ns_same (hHco c zb) q)
      · obtain ⟨o', es, ep, z1, z2⟩ := q
        exact ⟨o', es, ep, kb c o' ((hHco c zb).trans z1) nf', z2⟩
    · rw [← e9h]; exact kb b _ hHcb nbF0
    · rw [← e9h]; exact kb l _ ((hHco l q4).trans q2) nlF0
end
end Mine

open PySem PySem.W PySem.Spec PySem.Calls PyProof.Rows
set_option Elab.async false
set_option maxRecDepth 100000
set_option linter.unusedVariables false
namespace Mine

theorem ints_of_repL {bx : Bx} {X : Addr → Prop} {h : Heap} : ∀ {vs : List Value} {xs : List Int}, RepL bx X h vs (xs.map .int) → IntsAre vs xs
  | [], [], _ => .nil
  | [], _ :: _, r => by cases r
  | _ :: _, [], r => by cases r
  | v :: vs, x :: xs, r => by
    cases r with
    | cons a r =>
      obtain ⟨t, rfl⟩ := rep_int a
      exact .cons x t (ints_of_repL r)

theorem first_ev {xs : List Int} (h : xs.length ≤ 1000) : evL (fun k e => ev Φ0 Γ0 10 .val [(16828126028774, .val (.list (xs.map .int)))] k e) [.bi .list [.upto (.var 16828126028774) (.int 24)], .int 0] 0 = .ok [.list ((xs.take 24).map .int), .int 0] 0 := by
  have h1 : ∀ k, uptoD (.list (xs.map .int)) (.int 24) k = .ok (.list ((xs.take 24).map .int)) k := fun k => by
    rw [up_l ⟨by decide, sz (by rw [List.length_map]; omega)⟩, List.map_take]
    rfl
  have h2 : ∀ k, biD .list [.list ((xs.take 24).map .int)] k = .ok (.list ((xs.take 24).map .int)) k := fun k => bi_listl (sz (by rw [List.length_map]; simp; omega))
  simp -implicitDefEqProofs only [l_cons, l_nil, w_bi, w_upto, w_var, w_int, getV_hit, Nat.reduceBEq, b_ok, h1, h2]

section
variable {prog : Program} {w : World} {K : Frag} {hb : Heap} {C : Addr} {N : Nat} {Γ : GamT} {xs : List Int}
variable {A : Around} {ε : Env} {s : Shared} {L a : Addr} {vs : List Value} {mb : Str → Option Value} {xb xs' : Str} {px pl pos : Pos} {e1 e2 : PySem.Expr} {rest : List Stmt}

theorem law_run (kin : K.In hb) (top : ∃ p loose mg mb, TopRead p loose mg mb hb) (blt : ∀ x, ((biOf x).isSome = true ∨ x = ("range" : Str)) → nsIn K mainGlobals x = some none)
    (F : Fr hb L s.heap mb) (hL : hb.get? L = none) (hhd : A.handled = none) (hfr : A.frames = some [ε]) (hdep : A.depth + N < recursionLimit) (huni : A.units + 8 * N + 80 < cLine)
    (hε : ε.locals = L ∧ ε.frame = some L ∧ ε.globals = mainGlobals ∧ ε.builtins = builtinsNs ∧ ε.cells = [] ∧ ε.scope.kind = .function) (hnc : ∀ x, ε.scope.names.lookup x ≠ some .cell)
    (ha : hb.get? a = some { cls := .type "list", data := .seq vs.toArray }) (hI : IntsAre vs xs) (hx : xs.length ≤ 1000) (hscr : mb xs' = some (.ref a))
    (et : tok xs' = 16828126028774) (eb : tok xb = 8155076) (hks : ε.scope.names.lookup xs' = some .local) (hlb : lcl ε.scope.names xb = true)
    (he : [e1, e2].map (er 60 ε.scope.names) = [.bi .list [.upto (.var 16828126028774) (.int 24)], .int 0])
    (hsw : swapsWith (.List [e1, e2] pl) (some (.Name xb px)) pos.line ε = pure false)
    (run : ∀ b l, ∃ Φ k', Gl prog w K hb C (some (b, l, xs.take 24)) False N Φ Γ ∧ retR (exL (fun ρ k s => ex Φ Γ 60 ρ k s) (rest.map (erS 60 ε.scope.names)) [(8155076, .val (.dict []))] 0) = .ok (.bool true) k') :
    wpAny (model prog w) A (execs (.Assign [.Name xb px] (.List [e1, e2] pl) pos :: rest) ε) (fun f s' => f = .ret (.bool true) ∧ (∀ b o, hb.get? b = some o → s'.heap.get? b = some o) ∧ Rest s s') (fun _ _ => False) s := by
  obtain ⟨hεl, hεf, hεg, hεb, hεc, hεk⟩ := hε
  have GN : Gl prog w K hb C none False N Φ0 Γ0 := ⟨kin, top, (fun f φ e => by cases e), (fun x d e => by cases e), blt⟩
  have HN := (ev_sound (A := A) (FL := [L]) GN (fun z => z.elim) 10).1
  have hLa : a ≠ L := fun z => by rw [z, hL] at ha; cases ha
  have oL : ∃ o, s.heap.get? L = some o := by
    obtain ⟨o, _, _, e, _⟩ := F.ns
    exact ⟨o, e⟩
  have T0 : St none hb A [] L N (fun _ => False) hb (g0 none [] hb) ε s 0 [(16828126028774, .val (.list (xs.map .int)))] (fun c => c = L) (fun _ => 0) := by
    have noOwn : ∀ x l', ([(16828126028774, .val (.list (xs.map .int)))] : Rho).lookup (tok x) ≠ some (.own l') := fun x l' q => by
      by_cases z1 : tok x = 16828126028774
      · rw [z1] at q; cases q
      · rw [List.lookup_cons, beq_eq_false_iff_ne.mpr z1] at q
        cases q
    refine ⟨⟨⟨hhd, ⟨[ε], hfr, by rw [List.map_cons, List.map_nil, hεf]; rfl, fun e q => ?_⟩, fun c q => ?_, hdep, huni⟩, ⟨F.keep, fun c q => List.mem_singleton.mp q, fun c q => ?_, trivial, fun _ _ z => (by cases z)⟩, ⟨L, .head _, F.above⟩⟩,
      ⟨hεk, hεg, hεb, ⟨L, .head _, hεf⟩, fun x q => q, fun x q => absurd q (hnc x), fun x d hv q => ?_, fun x l' hv q => absurd q (noOwn x l')⟩, hεl, hεf, ⟨fun c o q => F.keep c o q, fun c q => absurd q List.not_mem_nil, fun c q => ?_⟩, fun c o q => ⟨List.not_mem_nil, (by intro _ z; cases z)⟩, fun c o q => q, fun _ z => z.elim, ⟨hL, hL⟩, F.above, List.not_mem_nil, fun x c q => (by rw [hεc] at q; cases q), fun x y c q => (by rw [hεc] at q; cases q),
      fun x l' hv q => absurd q (noOwn x l'), fun x y l1 l2 hv1 hv2 q => absurd q (noOwn x l1), fun _ _ _ z => (by cases z)⟩
    · rw [List.mem_singleton.mp q, hεk]; intro z; cases z
    · rw [List.mem_singleton.mp q]; exact ⟨_, F.ns⟩
    · subst q; exact ⟨hL, oL⟩
    · by_cases z1 : tok x = 16828126028774
      · have ex : x = xs' := tok_inj (z1.trans et.symm)
        subst ex
        rw [z1] at q
        cases q
        exact ⟨.ref a, .inl ⟨hks, _, hεl ▸ F.ns, hscr⟩, .lst (n := 0) hLa (F.keep _ _ ha) (repL_ints hI)⟩
      · rw [List.lookup_cons, beq_eq_false_iff_ne.mpr z1] at q
        cases q
    · cases q' : hb.get? c with
      | none => rfl
      | some o => rw [F.keep c o q'] at q; cases q
  have ev1 : evL (fun k e => ev Φ0 Γ0 10 .val [(16828126028774, .val (.list (xs.map .int)))] k e) ([e1, e2].map (er 60 ε.scope.names)) 0 = .ok [.list ((xs.take 24).map .int), .int 0] 0 := by
    rw [he]; exact first_ev hx
  have W1 := evL_sound HN (pos := pl) [e1, e2] s 0 T0.cx T0.vw (by rw [ev1]; trivial)
  rw [ev1] at W1
  refine wpAny_execs_cons (wpAny_Assign_Name (List_ (wpAny_mono W1 (fun vl s₁ hq => ?_) fun e s'' h => ?_)) hsw)
  case refine_2 =>
    obtain ⟨_, _, _, z, _⟩ := h
    cases z
  obtain ⟨ds, k1, z1, st1, rl1⟩ := hq
  cases z1
  have T1 := T0.step st1
  have hlen2 : vl.length = 2 := rl1.length
  refine wpAny_newObj_type ?_ (by
    have h24 : sizeLine = 2 ^ 24 := by decide
    show vl.toArray.size ≤ sizeLine
    rw [List.size_toArray, hlen2]; omega)
  cases rl1 with
  | cons r1 rl2 =>
  cases rl2 with
  | cons r2 rl3 =>
  cases rl3
  obtain ⟨t2, rfl⟩ := rep_int r2
  cases r1 with
  | lst nx el rr =>
  rename_i l ws nl
  have hb1 : ∀ c, c = s₁.heap.objs.size → s₁.heap.get? c = none := fun c z => by
    cases q : s₁.heap.get? c with
    | none => rfl
    | some o => exact absurd (Heap.lt_size q) (by rw [z]; exact Nat.lt_irrefl _)
  generalize hbb : s₁.heap.objs.size = b at hb1
  have hbn : hb.get? b = none := by
    cases q : hb.get? b with
    | none => rfl
    | some o =>
      have := T1.cx.wd.base b o q
      rw [hb1 b rfl] at this; cases this
  have hlb' : l ≠ b := fun z => by rw [z, hb1 b rfl] at el; cases el
  generalize hH : s₁.heap.push { cls := .type "list", dict := none, data := .seq [Value.ref l, Value.int 0 t2].toArray } = H2
  have hHb : H2.get? b = some { cls := .type "list", data := .seq #[.ref l, .int 0 t2] } := by
    rw [← hH, ← hbb]; exact Heap.get?_push_size _ rfl
  have hHk : ∀ c o, s₁.heap.get? c = some o → H2.get? c = some o := fun c o q => by
    rw [← hH]; exact Heap.get?_push_of_some _ q
  have hLb : L ≠ b := fun z => by
    obtain ⟨m, o, _, _, q, _⟩ := T1.cx.act.ns L (.head _)
    rw [z, hb1 b rfl] at q; cases q
  have T2 : St (some (b, l, xs.take 24)) hb A [] L N (fun _ => False) hb (g0 (some (b, l, xs.take 24)) [] hb) ε { s₁ with heap := H2 } 0 [] (fun c => c = L ∨ c = b) (fun _ => 0) := by
    have g0e : ∀ c o, g0 (some (b, l, xs.take 24)) [] hb c = some o → c ≠ b ∧ hb.get? c = some o := fun c o q => by
      unfold g0 at q
      rw [if_neg List.not_mem_nil] at q
      dsimp only at q
      split at q
      · cases q
      · rename_i z
        exact ⟨z, q⟩
    refine ⟨⟨⟨hhd, T1.cx.act.fr, fun c q => ?_, hdep, huni⟩, ⟨fun c o q => hHk c o (T1.cx.wd.base c o q), fun c q => .inl (List.mem_singleton.mp q), fun c q => ?_, ⟨0, ws.toArray, nl, t2, hHb, hHk l _ el, ints_of_repL rr, hlb'⟩, fun c y z => (by cases z; exact .inr rfl)⟩, T1.cx.fl⟩,
      ⟨hεk, hεg, hεb, ⟨L, .head _, hεf⟩, fun x q => q, fun x q => absurd q (hnc x), fun x d hv q => (by cases q), fun x l' hv q => (by cases q)⟩, hεl, hεf, ⟨fun c o q => hHk c o (T1.cx.wd.base c o (g0e c o q).2), fun c q => absurd q List.not_mem_nil, fun c q => ?_⟩, fun c o q => ⟨List.not_mem_nil, fun y z => (by cases z; exact (g0e _ o q).1 rfl)⟩, fun c o q => (g0e c o q).2, fun _ z => z.elim, ⟨?_, hL⟩, F.above, List.not_mem_nil, fun x c q => (by rw [hεc] at q; cases q), fun x y c q => (by rw [hεc] at q; cases q),
      fun x l' hv q => (by cases q), fun x y l1 l2 hv1 hv2 q => (by cases q), fun _ _ _ z x l' hv q => (by cases q)⟩
    · obtain ⟨m, q'⟩ := T1.cx.act.ns c q
      exact ⟨m, q'.keeps hHk⟩
    · rcases q with rfl | rfl
      · obtain ⟨h1, o, h2⟩ := T1.cx.wd.xok _ rfl
        exact ⟨h1, o, hHk _ _ h2⟩
      · exact ⟨hbn, _, hHb⟩
    · cases q' : hb.get? c with
      | none => rfl
      | some o =>
        have z : H2.get? c = none := q
        rw [hHk c o (T1.cx.wd.base c o q')] at z; cases z
    · unfold g0
      rw [if_neg List.not_mem_nil]
      dsimp only
      rw [if_neg hLb]
      exact hL
  refine T2.store (u := .val (.dict [])) hlb ⟨.box rfl, rfl⟩ fun s₃ T3 mv rs3 lv => ?_
  rw [eb] at T3
  have T3' : St (some (b, l, xs.take 24)) hb A [] L N (fun _ => False) hb (g0 (some (b, l, xs.take 24)) [] hb) ε s₃ 0 [(8155076, .val (.dict []))] (fun c => c = L ∨ c = b) (fun _ => 0) := T3
  obtain ⟨Φ, k', G, er⟩ := run b l
  obtain ⟨ρ', er⟩ := retR_okb er
  refine wpAny_mono (exL_sound (C := C) (m := 60) (ex_sound G (fun z => z.elim) (fun z => z.elim) 60) rest _ 0 _ _ _ T3' (by rw [er]; trivial)) (fun fl s'' hq => ?_) fun e s'' ⟨_, _, _, e1, _⟩ => by rw [er] at e1; cases e1
  rw [er] at hq
  cases fl with
  | next => obtain ⟨_, _, _, _, e1, _⟩ := hq; cases e1
  | brk => exact hq.elim
  | cont => exact hq.elim
  | ret v =>
    obtain ⟨d, ρ'', k'', e1, o, rp, rs⟩ := hq
    cases e1
    cases rp
    refine ⟨rfl, fun c o' q => o.kp.g0 c o' ?_, ?_⟩
    · unfold g0
      rw [if_neg List.not_mem_nil]
      dsimp only
      rw [if_neg (fun z => by rw [z, hbn] at q; cases q)]
      exact q
    · refine st1.rest.trans (Rest.trans (s' := { s₁ with heap := H2 }) ⟨_, _, rfl⟩ (rs3.trans rs))
end
end Mine

open PySem PySem.W PySem.Spec PySem.Calls PyProof.Rows
set_option Elab.async false
set_option maxRecDepth 100000
set_option linter.unusedVariables false
namespace Mine
section
/-! the run of the top: its heaps, written out -/
noncomputable abbrev rwL : OpenLaw := PySem.Challenge.rw_rh0037_01
noncomputable abbrev prg : Program := rwL.row.toRowW.1
noncomputable def stA (i : Nat) : Option PySem.Stmt := if i = 1000 then (match (prg.main.body[1]? : Option PySem.Stmt) with
  | some (PySem.Stmt.ClassDef _ _ _ b _ _ _ _ _ _ _) => b[0]?
  | _ => none) else prg.main.body[i]?
noncomputable abbrev N : Value := .none
noncomputable abbrev I (i : Int) (t : Nat) : Value := .int i t
noncomputable abbrev Sv (x : String) (t : Nat) : Value := .str (Str.ofString x) t
noncomputable abbrev r (a : Nat) : Value := .ref a
noncomputable abbrev b (x : Bool) : Value := .bool x
noncomputable abbrev ty (x : String) : Value := .type x
noncomputable abbrev bi (x : String) : Value := .builtin x
noncomputable abbrev ar {α : Type} (l : List α) : Array α := ⟨l⟩
noncomputable abbrev E (P : Params) (x : String) (t : Nat) (v : Value) : DictEntry := ⟨PyData.keyHash P (Str.ofString x), .str (Str.ofString x) t, v⟩
noncomputable abbrev mkO (c : Value) (d : Option Addr) (x : Data) (l : List (Option Value)) : Obj := ⟨c, d, x, ⟨l⟩⟩
noncomputable abbrev Tp (l : List Value) : Obj := ⟨.type "tuple", none, .seq ⟨l⟩ 0, ⟨[]⟩⟩
noncomputable abbrev Cd (l : List Value) : Obj := ⟨.type "code", none, .fields ⟨l⟩, ⟨[]⟩⟩
noncomputable def fd (i : Nat) (q : String) (g : Addr) (cl : List (Str × Addr)) (dv kv doc pm : Value) (an : Option Addr) (cd ct : Value) (bl : Addr) : Data := match stA i with
  | some (PySem.Stmt.FunctionDef n a b _ _ _ s _ _ _) => .func ⟨n, Str.ofString q, a, .stmts b, s, g, cl, dv, kv, doc, pm, an, cd, ct, bl⟩
  | _ => .plain
noncomputable abbrev nd (o : Obj) (l r : BT) : BT := .node o l r
noncomputable abbrev nl : BT := .nil
noncomputable def o0 (P : Params) : Obj := mkO (ty "dict") none (.dict (ar [E P "__name__" 1 (Sv "builtins" 160), E P "__doc__" 2 (bi "builtins.__doc__:str#opaque"), E P "__package__" 3 (bi "builtins.__package__:str#opaque"), E P "__loader__" 4 (bi "builtins.__loader__:shared#opaque"), E P "__spec__" 5 (bi "builtins.__spec__#opaque"), E P "__build_class__" 6 (bi "__build_class__"), E P "__import__" 7 (bi "__import__"), E P "abs" 8 (bi "abs"), E P "all" 9 (bi "all"), E P "any" 10 (bi "any"), E P "ascii" 11 (bi "ascii"), E P "bin" 12 (bi "bin"), E P "breakpoint" 13 (bi "breakpoint"), E P "callable" 14 (bi "callable"), E P "chr" 15 (bi "chr"), E P "compile" 16 (bi "compile"), E P "delattr" 17 (bi "delattr"), E P "dir" 18 (bi "dir"), E P "divmod" 19 (bi "divmod"), E P "eval" 20 (bi "eval"), E P "exec" 21 (bi "exec"), E P "format" 22 (bi "format"), E P "getattr" 23 (bi "getattr"), E P "globals" 24 (bi "globals"), E P "hasattr" 25 (bi "hasattr"), E P "hash" 26 (bi "hash"), E P "hex" 27 (bi "hex"), E P "id" 28 (bi "id"), E P "input" 29 (bi "input"), E P "isinstance" 30 (bi "isinstance"), E P "issubclass" 31 (bi "issubclass"), E P "iter" 32 (bi "iter"), E P "aiter" 33 (bi "aiter"), E P "len" 34 (bi "len"), E P "locals" 35 (bi "locals"), E P "max" 36 (bi "max"), E P "min" 37 (bi "min"), E P "next" 38 (bi "next"), E P "anext" 39 (bi "anext"), E P "oct" 40 (bi "oct"), E P "ord" 41 (bi "ord"), E P "pow" 42 (bi "pow"), E P "print" 43 (bi "print"), E P "repr" 44 (bi "repr"), E P "round" 45 (bi "round"), E P "setattr" 46 (bi "setattr"), E P "sorted" 47 (bi "sorted"), E P "sum" 48 (bi "sum"), E P "vars" 49 (bi "vars"), E P "None" 50 N, E P "Ellipsis" 51 Value.ellipsis, E P "NotImplemented" 52 Value.notImplemented, E P "False" 53 (b false), E P "True" 54 (b true), E P "bool" 55 (ty "bool"), E P "memoryview" 56 (ty "memoryview"), E P "bytearray" 57 (ty "bytearray"), E P "bytes" 58 (ty "bytes"), E P "classmethod" 59 (ty "classmethod"), E P "complex" 60 (ty "complex"), E P "dict" 61 (ty "dict"), E P "enumerate" 62 (ty "enumerate"), E P "filter" 63 (ty "filter"), E P "float" 64 (ty "float"), E P "frozenset" 65 (ty "frozenset"), E P "property" 66 (ty "property"), E P "int" 67 (ty "int"), E P "list" 68 (ty "list"), E P "map" 69 (ty "map"), E P "object" 70 (ty "object"), E P "range" 71 (ty "range"), E P "reversed" 72 (ty "reversed"), E P "set" 73 (ty "set"), E P "slice" 74 (ty "slice"), E P "staticmethod" 75 (ty "staticmethod"), E P "str" 76 (ty "str"), E P "super" 77 (ty "super"), E P "tuple" 78 (ty "tuple"), E P "type" 79 (ty "type"), E P "zip" 80 (ty "zip"), E P "__debug__" 81 (b true), E P "BaseException" 82 (ty "BaseException"), E P "BaseExceptionGroup" 83 (ty "BaseExceptionGroup"), E P "Exception" 84 (ty "Exception"), E P "GeneratorExit" 85 (ty "GeneratorExit"), E P "KeyboardInterrupt" 86 (ty "KeyboardInterrupt"), E P "SystemExit" 87 (ty "SystemExit"), E P "ArithmeticError" 88 (ty "ArithmeticError"), E P "AssertionError" 89 (ty "AssertionError"), E P "AttributeError" 90 (ty "AttributeError"), E P "BufferError" 91 (ty "BufferError"), E P "EOFError" 92 (ty "EOFError"), E P "ImportError" 93 (ty "ImportError"), E P "LookupError" 94 (ty "LookupError"), E P "MemoryError" 95 (ty "MemoryError"), E P "NameError" 96 (ty "NameError"), E P "OSError" 97 (ty "OSError"), E P "ReferenceError" 98 (ty "ReferenceError"), E P "RuntimeError" 99 (ty "RuntimeError"), E P "StopAsyncIteration" 100 (ty "StopAsyncIteration"), E P "StopIteration" 101 (ty "StopIteration"), E P "SyntaxError" 102 (ty "SyntaxError"), E P "SystemError" 103 (ty "SystemError"), E P "TypeError" 104 (ty "TypeError"), E P "ValueError" 105 (ty "ValueError"), E P "Warning" 106 (ty "Warning"), E P "FloatingPointError" 107 (ty "FloatingPointError"), E P "OverflowError" 108 (ty "OverflowError"), E P "ZeroDivisionError" 109 (ty "ZeroDivisionError"), E P "BytesWarning" 110 (ty "BytesWarning"), E P "DeprecationWarning" 111 (ty "DeprecationWarning"), E P "EncodingWarning" 112 (ty "EncodingWarning"), E P "FutureWarning" 113 (ty "FutureWarning"), E P "ImportWarning" 114 (ty "ImportWarning"), E P "PendingDeprecationWarning" 115 (ty "PendingDeprecationWarning"), E P "ResourceWarning" 116 (ty "ResourceWarning"), E P "RuntimeWarning" 117 (ty "RuntimeWarning"), E P "SyntaxWarning" 118 (ty "SyntaxWarning"), E P "UnicodeWarning" 119 (ty "UnicodeWarning"), E P "UserWarning" 120 (ty "UserWarning"), E P "BlockingIOError" 121 (ty "BlockingIOError"), E P "ChildProcessError" 122 (ty "ChildProcessError"), E P "ConnectionError" 123 (ty "ConnectionError"), E P "FileExistsError" 124 (ty "FileExistsError"), E P "FileNotFoundError" 125 (ty "FileNotFoundError"), E P "InterruptedError" 126 (ty "InterruptedError"), E P "IsADirectoryError" 127 (ty "IsADirectoryError"), E P "NotADirectoryError" 128 (ty "NotADirectoryError"), E P "PermissionError" 129 (ty "PermissionError"), E P "ProcessLookupError" 130 (ty "ProcessLookupError"), E P "TimeoutError" 131 (ty "TimeoutError"), E P "IndentationError" 132 (ty "IndentationError"), E P "_IncompleteInputError" 133 (ty "_IncompleteInputError"), E P "IndexError" 134 (ty "IndexError"), E P "KeyError" 135 (ty "KeyError"), E P "ModuleNotFoundError" 136 (ty "ModuleNotFoundError"), E P "NotImplementedError" 137 (ty "NotImplementedError"), E P "PythonFinalizationError" 138 (ty "PythonFinalizationError"), E P "RecursionError" 139 (ty "RecursionError"), E P "UnboundLocalError" 140 (ty "UnboundLocalError"), E P "UnicodeError" 141 (ty "UnicodeError"), E P "BrokenPipeError" 142 (ty "BrokenPipeError"), E P "ConnectionAbortedError" 143 (ty "ConnectionAbortedError"), E P "ConnectionRefusedError" 144 (ty "ConnectionRefusedError"), E P "ConnectionResetError" 145 (ty "ConnectionResetError"), E P "TabError" 146 (ty "TabError"), E P "UnicodeDecodeError" 147 (ty "UnicodeDecodeError"), E P "UnicodeEncodeError" 148 (ty "UnicodeEncodeError"), E P "UnicodeTranslateError" 149 (ty "UnicodeTranslateError"), E P "ExceptionGroup" 150 (ty "ExceptionGroup"), E P "EnvironmentError" 151 (ty "OSError"), E P "IOError" 152 (ty "OSError"), E P "open" 153 (bi "open"), E P "quit" 154 (bi "builtins.quit#opaque"), E P "exit" 155 (bi "builtins.exit#opaque"), E P "copyright" 156 (bi "builtins.copyright#opaque"), E P "credits" 157 (bi "builtins.credits#opaque"), E P "license" 158 (bi "builtins.license#opaque"), E P "help" 159 (bi "builtins.help#opaque")]) 159) []
noncomputable def o1 (P : Params) : Obj := mkO (ty "dict") none (.dict (ar [E P "builtins" 162 (r 4), E P "__main__" 163 (r 5)]) 2) []
noncomputable def o2 (P : Params) : Obj := mkO N none (.dict (ar [E P "type.__subclasses__.Exception.0" 216 (I (31) 0), E P "type.__subclasses__.Exception.n" 217 (I (1) 0)]) 2) []
noncomputable def o3 (P : Params) : Obj := mkO (ty "dict") none (.dict (ar [E P "__name__" 165 (Sv "law_rh0037_01" 832), E P "__doc__" 166 N, E P "__package__" 167 N, E P "__loader__" 168 (bi "__main__.__loader__#opaque"), E P "__spec__" 169 N, E P "__annotations__" 170 (r 6), E P "__builtins__" 171 (r 4), E P "__file__" 173 (Sv "/claim/cut.py" 172), E P "__cached__" 174 N, E P "CasFail" 219 (r 31), E P "gcd" 229 (r 41), E P "bits_of" 239 (r 48), E P "root_of" 250 (r 55), E P "R0" 255 (r 56), E P "R1" 258 (r 57), E P "MOST_BITS" 260 (I (200000) 259), E P "rat" 269 (r 64), E P "radd" 277 (r 71), E P "rsub" 285 (r 78), E P "rmul" 293 (r 85), E P "rdiv" 301 (r 92), E P "rneg" 308 (r 99), E P "rinv" 315 (r 106), E P "rpower" 324 (r 113), E P "is_vast" 332 (r 120), E P "rcompare" 341 (r 127), E P "cut" 351 (r 134), E P "let" 358 (r 141), E P "sadd" 364 (r 146), E P "sscale" 370 (r 151), E P "mixed" 381 (r 158), E P "smul" 387 (r 163), E P "sinverse" 398 (r 170), E P "sderive" 404 (r 175), E P "sintegrate" 410 (r 180), E P "need_begin" 418 (r 187), E P "sexp" 429 (r 194), E P "slog" 436 (r 201), E P "ssin_cos" 450 (r 208), E P "ssin" 457 (r 215), E P "scos" 464 (r 222), E P "satan" 472 (r 229), E P "spower" 485 (r 236), E P "swhole_power" 496 (r 243), E P "MOST_SQUARED" 500 (I (1000) 499), E P "lplain" 508 (r 250), E P "ladd" 514 (r 255), E P "lmul" 522 (r 262), E P "ltrim" 531 (r 269), E P "linverse" 540 (r 276), E P "lpower" 551 (r 283), E P "exact_root" 563 (r 290), E P "from_zero" 573 (r 297), E P "of_call" 585 (r 304), E P "of_root" 597 (r 311), E P "of_power" 608 (r 318), E P "of_sum" 618 (r 325), E P "of_term" 624 (r 330), E P "STILL" 628 (r 332), E P "MOST_TURNS" 630 (I (200) 629), E P "MOST_KINDS" 632 (I (1000) 631), E P "ginsert" 642 (r 339), E P "gadd" 652 (r 346), E P "poly_sum" 658 (r 351), E P "kind_product" 666 (r 358), E P "gmul" 677 (r 365), E P "kind_compare" 683 (r 370), E P "fastest" 692 (r 377), E P "exponent_of" 701 (r 384), E P "gpower" 707 (r 389), E P "gratio_power" 717 (r 396), E P "groot" 723 (r 401), E P "growth_of" 734 (r 408), E P "growth_of_other" 743 (r 415), E P "far_limit" 754 (r 422), E P "FAR" 758 (Sv "inf" 757), E P "LOW" 760 (Sv "-inf" 759), E P "TRIES" 768 (r 423), E P "from_begin" 780 (r 430), E P "begun_series" 791 (r 437), E P "limit_near" 804 (r 444), E P "mirrored" 810 (r 449), E P "limit_far" 821 (r 456), E P "limit" 831 (r 463), E P "_law_x" 836 (r 464), E P "_law_take" 844 (r 471), E P "_law_power" 852 (r 478), E P "_law_part" 860 (r 485), E P "_law_told" 869 (r 492), E P "_law_due" 879 (r 499), E P "_law_root_right" 895 (r 506), E P "_law_pole_right" 908 (r 513), E P "_law_quotient_right" 925 (r 520), E P "_law_beginning_right" 931 (r 525), E P "law" 943 (r 532)]) 95) []
noncomputable def o4 (P : Params) : Obj := mkO (ty "module") (some 0) .plain []
noncomputable def o5 (P : Params) : Obj := mkO (ty "module") (some 3) .plain []
noncomputable def o6 (P : Params) : Obj := mkO (ty "dict") none (.dict (ar []) 0) []
noncomputable def o7 (P : Params) : Obj := Tp []
noncomputable def o8 (P : Params) : Obj := mkO N none (.fields (ar [])) []
noncomputable def o9 (P : Params) : Obj := Cd [(Sv "<module>" 176), (Sv "<module>" 177), (Sv "/claim/cut.py" 178), (I (1) 0), (I (0) 0), (I (0) 0), (I (0) 0), (I (0) 0), (r 7), (b false), (I (175) 0), (r 8), N, N, N, N, (I (179) 0), (I (1) 0), (Sv "/claim/cut.py" 180)]
noncomputable def o10 (P : Params) : Obj := mkO (ty "frame") none .plain [(some (r 9)), (some (r 3)), (some (r 3)), none, (some (Sv "__main__" 164)), none, (some (r 0))]
noncomputable def o11 (P : Params) : Obj := Tp []
noncomputable def o12 (P : Params) : Obj := mkO N none (.fields (ar [(I (2) 0), (I (0) 0), (r 20), (I (9) 0), (I (0) 0), (r 40), (I (14) 0), (I (0) 0), (r 47), (I (21) 0), (I (0) 0), (r 54), (I (38) 0), (I (0) 0), (r 63), (I (43) 0), (I (0) 0), (r 70), (I (45) 0), (I (0) 0), (r 77), (I (47) 0), (I (0) 0), (r 84), (I (49) 0), (I (0) 0), (r 91), (I (51) 0), (I (0) 0), (r 98), (I (53) 0), (I (0) 0), (r 105), (I (55) 0), (I (0) 0), (r 112), (I (62) 0), (I (0) 0), (r 119), (I (65) 0), (I (0) 0), (r 126), (I (69) 0), (I (0) 0), (r 133), (I (71) 0), (I (0) 0), (r 140), (I (75) 0), (I (0) 0), (r 145), (I (77) 0), (I (0) 0), (r 150), (I (79) 0), (I (0) 0), (r 157), (I (85) 0), (I (0) 0), (r 162), (I (87) 0), (I (0) 0), (r 169), (I (97) 0), (I (0) 0), (r 174), (I (99) 0), (I (0) 0), (r 179), (I (101) 0), (I (0) 0), (r 186), (I (104) 0), (I (0) 0), (r 193), (I (113) 0), (I (0) 0), (r 200), (I (118) 0), (I (0) 0), (r 207), (I (130) 0), (I (0) 0), (r 214), (I (132) 0), (I (0) 0), (r 221), (I (134) 0), (I (0) 0), (r 228), (I (141) 0), (I (0) 0), (r 235), (I (151) 0), (I (0) 0), (r 242), (I (162) 0), (I (0) 0), (r 249), (I (164) 0), (I (0) 0), (r 254), (I (169) 0), (I (0) 0), (r 261), (I (171) 0), (I (0) 0), (r 268), (I (176) 0), (I (0) 0), (r 275), (I (181) 0), (I (0) 0), (r 282), (I (192) 0), (I (0) 0), (r 289), (I (195) 0), (I (0) 0), (r 296), (I (202) 0), (I (0) 0), (r 303), (I (220) 0), (I (0) 0), (r 310), (I (233) 0), (I (0) 0), (r 317), (I (242) 0), (I (0) 0), (r 324), (I (247) 0), (I (0) 0), (r 329), (I (273) 0), (I (0) 0), (r 338), (I (279) 0), (I (0) 0), (r 345), (I (284) 0), (I (0) 0), (r 350), (I (289) 0), (I (0) 0), (r 357), (I (291) 0), (I (0) 0), (r 364), (I (299) 0), (I (0) 0), (r 369), (I (305) 0), (I (0) 0), (r 376), (I (311) 0), (I (0) 0), (r 383), (I (318) 0), (I (0) 0), (r 388), (I (336) 0), (I (0) 0), (r 395), (I (341) 0), (I (0) 0), (r 400), (I (352) 0), (I (0) 0), (r 407), (I (370) 0), (I (0) 0), (r 414), (I (385) 0), (I (0) 0), (r 421), (I (402) 0), (I (0) 0), (r 429), (I (413) 0), (I (0) 0), (r 436), (I (423) 0), (I (0) 0), (r 443), (I (429) 0), (I (0) 0), (r 448), (I (439) 0), (I (0) 0), (r 455), (I (447) 0), (I (0) 0), (r 462), (I (453) 0), (I (0) 0), (r 470), (I (458) 0), (I (0) 0), (r 477), (I (460) 0), (I (0) 0), (r 484), (I (462) 0), (I (0) 0), (r 491), (I (467) 0), (I (0) 0), (r 498), (I (474) 0), (I (0) 0), (r 505), (I (481) 0), (I (0) 0), (r 512), (I (487) 0), (I (0) 0), (r 519), (I (495) 0), (I (0) 0), (r 524), (I (500) 0), (I (0) 0), (r 531)])) []
noncomputable def o13 (P : Params) : Obj := Cd [(Sv "<module>" 182), (Sv "<module>" 183), (Sv "/claim/cut.py" 184), (I (1) 0), (I (0) 0), (I (0) 0), (I (0) 0), (I (0) 0), (r 11), (b false), (I (181) 0), (r 12), N, N, N, N, (I (185) 0), (I (1) 0), (Sv "/claim/cut.py" 186)]
noncomputable def o14 (P : Params) : Obj := mkO (ty "frame") none .plain [(some (r 13)), (some (r 3)), (some (r 3)), none, (some (Sv "__main__" 164)), none, (some (r 0))]
noncomputable def o15 (P : Params) : Obj := Tp [(ty "Exception")]
noncomputable def o16 (P : Params) : Obj := mkO (ty "builtin_function_or_method") none (.fields (ar [(bi "type.__prepare__"), (ty "type")])) []
noncomputable def o17 (P : Params) : Obj := mkO (ty "dict") none (.dict (ar [E P "__module__" 196 (Sv "cas.errors" 187), E P "__qualname__" 198 (Sv "CasFail" 197), E P "__firstlineno__" 200 (I (2) 199), E P "__init__" 209 (r 28), E P "__static_attributes__" 212 (r 29)]) 5) []
noncomputable def o18 (P : Params) : Obj := Tp []
noncomputable def o19 (P : Params) : Obj := mkO N none (.fields (ar [(I (4) 0), (I (4) 0), (r 27)])) []
noncomputable def o20 (P : Params) : Obj := Cd [(Sv "CasFail" 191), (Sv "CasFail" 192), (Sv "/claim/cut.py" 193), (I (2) 0), (I (0) 0), (I (0) 0), (I (0) 0), (I (0) 0), (r 18), (b false), (I (181) 0), (r 19), N, N, N, N, (I (194) 0), (I (2) 0), (Sv "/claim/cut.py" 195)]
noncomputable def o21 (P : Params) : Obj := mkO (ty "frame") none .plain [(some (r 20)), (some (r 3)), (some (r 17)), none, (some (Sv "cas.errors" 187)), none, (some (r 0))]
noncomputable def o22 (P : Params) : Obj := Tp []
noncomputable def o23 (P : Params) : Obj := mkO N none (.fields (ar [])) []
noncomputable def o24 (P : Params) : Obj := Tp [(Sv "self" 204), (Sv "kind" 205), (Sv "text" 206)]
noncomputable def o25 (P : Params) : Obj := Tp []
noncomputable def o26 (P : Params) : Obj := mkO N none (fd 1000 "CasFail.__init__" 0 [] N N N N none N N 0) []
noncomputable def o27 (P : Params) : Obj := Cd [(Sv "__init__" 201), (Sv "CasFail.__init__" 202), (Sv "/claim/cut.py" 203), (I (4) 0), (I (3) 0), (I (0) 0), (I (0) 0), (I (3) 0), (r 22), (b true), (I (181) 0), (r 23), N, (r 24), (r 25), (r 26), (I (207) 0), (I (4) 0), (Sv "/claim/cut.py" 208)]
noncomputable def o28 (P : Params) : Obj := mkO (ty "function") none (fd 1000 "CasFail.__init__" 3 [] N N N (Sv "cas.errors" 187) none (r 27) N 0) []
noncomputable def o29 (P : Params) : Obj := Tp [(Sv "kind" 210), (Sv "text" 211)]
noncomputable def o30 (P : Params) : Obj := mkO (ty "dict") none (.dict (ar [E P "__module__" 196 (Sv "cas.errors" 187), E P "__firstlineno__" 200 (I (2) 199), E P "__init__" 209 (r 28), E P "__static_attributes__" 212 (r 29), E P "__weakref__" 214 (r 32), E P "__doc__" 215 N]) 3) []
noncomputable def o31 (P : Params) : Obj := mkO (ty "type") none (.cls ⟨"CasFail", [(ty "Exception")], [(r 31), (ty "Exception"), (ty "BaseException"), (ty "object")], 30, "CasFail", true, [], [], false, none, false⟩) [(some (r 15)), none, (some (Sv "CasFail" 189)), (some (Sv "CasFail" 197)), (some (bi "Exception.__new__")), (some (b true))]
noncomputable def o32 (P : Params) : Obj := mkO (ty "getset_descriptor") none (.fields (ar [(Sv "__weakref__" 213), (r 31), (bi "ExceptionGroup.__weakref__"), N])) []
noncomputable def o33 (P : Params) : Obj := mkO (ty "super") none (.fields (ar [(r 31), (r 31), (r 31)])) []
noncomputable def o34 (P : Params) : Obj := mkO (ty "builtin_function_or_method") none (.fields (ar [(bi "object.__init_subclass__"), (r 31)])) []
noncomputable def o35 (P : Params) : Obj := Tp []
noncomputable def o36 (P : Params) : Obj := mkO N none (.fields (ar [])) []
noncomputable def o37 (P : Params) : Obj := Tp [(Sv "a" 225), (Sv "b" 226)]
noncomputable def o38 (P : Params) : Obj := Tp []
noncomputable def o39 (P : Params) : Obj := mkO N none (fd 3 "gcd" 0 [] N N N N none N N 0) []
noncomputable def o40 (P : Params) : Obj := Cd [(Sv "gcd" 222), (Sv "gcd" 223), (Sv "/claim/cut.py" 224), (I (9) 0), (I (2) 0), (I (0) 0), (I (0) 0), (I (3) 0), (r 35), (b true), (I (181) 0), (r 36), N, (r 37), (r 38), (r 39), (I (227) 0), (I (9) 0), (Sv "/claim/cut.py" 228)]
noncomputable def o41 (P : Params) : Obj := mkO (ty "function") none (fd 3 "gcd" 3 [] N N N (Sv "cas.ints" 220) none (r 40) N 0) []
noncomputable def o42 (P : Params) : Obj := Tp []
noncomputable def o43 (P : Params) : Obj := mkO N none (.fields (ar [])) []
noncomputable def o44 (P : Params) : Obj := Tp [(Sv "n" 233), (Sv "found" 234), (Sv "many" 235), (Sv "step" 236)]
noncomputable def o45 (P : Params) : Obj := Tp []
noncomputable def o46 (P : Params) : Obj := mkO N none (fd 4 "bits_of" 0 [] N N N N none N N 0) []
noncomputable def o47 (P : Params) : Obj := Cd [(Sv "bits_of" 230), (Sv "bits_of" 231), (Sv "/claim/cut.py" 232), (I (14) 0), (I (1) 0), (I (0) 0), (I (0) 0), (I (3) 0), (r 42), (b true), (I (181) 0), (r 43), N, (r 44), (r 45), (r 46), (I (237) 0), (I (14) 0), (Sv "/claim/cut.py" 238)]
noncomputable def o48 (P : Params) : Obj := mkO (ty "function") none (fd 4 "bits_of" 3 [] N N N (Sv "cas.ints" 220) none (r 47) N 0) []
noncomputable def o49 (P : Params) : Obj := Tp []
noncomputable def o50 (P : Params) : Obj := mkO N none (.fields (ar [])) []
noncomputable def o51 (P : Params) : Obj := Tp [(Sv "n" 243), (Sv "k" 244), (Sv "low" 245), (Sv "high" 246), (Sv "middle" 247)]
noncomputable def o52 (P : Params) : Obj := Tp []
noncomputable def o53 (P : Params) : Obj := mkO N none (fd 5 "root_of" 0 [] N N N N none N N 0) []
noncomputable def o54 (P : Params) : Obj := Cd [(Sv "root_of" 240), (Sv "root_of" 241), (Sv "/claim/cut.py" 242), (I (21) 0), (I (2) 0), (I (0) 0), (I (0) 0), (I (3) 0), (r 49), (b true), (I (181) 0), (r 50), N, (r 51), (r 52), (r 53), (I (248) 0), (I (21) 0), (Sv "/claim/cut.py" 249)]
noncomputable def o55 (P : Params) : Obj := mkO (ty "function") none (fd 5 "root_of" 3 [] N N N (Sv "cas.ints" 220) none (r 54) N 0) []
noncomputable def o56 (P : Params) : Obj := Tp [(I (0) 253), (I (1) 254)]
noncomputable def o57 (P : Params) : Obj := Tp [(I (1) 256), (I (1) 257)]
noncomputable def o58 (P : Params) : Obj := Tp []
noncomputable def o59 (P : Params) : Obj := mkO N none (.fields (ar [])) []
noncomputable def o60 (P : Params) : Obj := Tp [(Sv "top" 264), (Sv "bottom" 265), (Sv "g" 266)]
noncomputable def o61 (P : Params) : Obj := Tp []
noncomputable def o62 (P : Params) : Obj := mkO N none (fd 10 "rat" 0 [] N N N N none N N 0) []
noncomputable def o63 (P : Params) : Obj := Cd [(Sv "rat" 261), (Sv "rat" 262), (Sv "/claim/cut.py" 263), (I (38) 0), (I (2) 0), (I (0) 0), (I (0) 0), (I (3) 0), (r 58), (b true), (I (181) 0), (r 59), N, (r 60), (r 61), (r 62), (I (267) 0), (I (38) 0), (Sv "/claim/cut.py" 268)]
noncomputable def o64 (P : Params) : Obj := mkO (ty "function") none (fd 10 "rat" 3 [] N N N (Sv "cas.rats" 251) none (r 63) N 0) []
noncomputable def o65 (P : Params) : Obj := Tp []
noncomputable def o66 (P : Params) : Obj := mkO N none (.fields (ar [])) []
noncomputable def o67 (P : Params) : Obj := Tp [(Sv "a" 273), (Sv "b" 274)]
noncomputable def o68 (P : Params) : Obj := Tp []
noncomputable def o69 (P : Params) : Obj := mkO N none (fd 11 "radd" 0 [] N N N N none N N 0) []
noncomputable def o70 (P : Params) : Obj := Cd [(Sv "radd" 270), (Sv "radd" 271), (Sv "/claim/cut.py" 272), (I (43) 0), (I (2) 0), (I (0) 0), (I (0) 0), (I (3) 0), (r 65), (b true), (I (181) 0), (r 66), N, (r 67), (r 68), (r 69), (I (275) 0), (I (43) 0), (Sv "/claim/cut.py" 276)]
noncomputable def o71 (P : Params) : Obj := mkO (ty "function") none (fd 11 "radd" 3 [] N N N (Sv "cas.rats" 251) none (r 70) N 0) []
noncomputable def o72 (P : Params) : Obj := Tp []
noncomputable def o73 (P : Params) : Obj := mkO N none (.fields (ar [])) []
noncomputable def o74 (P : Params) : Obj := Tp [(Sv "a" 281), (Sv "b" 282)]
noncomputable def o75 (P : Params) : Obj := Tp []
noncomputable def o76 (P : Params) : Obj := mkO N none (fd 12 "rsub" 0 [] N N N N none N N 0) []
noncomputable def o77 (P : Params) : Obj := Cd [(Sv "rsub" 278), (Sv "rsub" 279), (Sv "/claim/cut.py" 280), (I (45) 0), (I (2) 0), (I (0) 0), (I (0) 0), (I (3) 0), (r 72), (b true), (I (181) 0), (r 73), N, (r 74), (r 75), (r 76), (I (283) 0), (I (45) 0), (Sv "/claim/cut.py" 284)]
noncomputable def o78 (P : Params) : Obj := mkO (ty "function") none (fd 12 "rsub" 3 [] N N N (Sv "cas.rats" 251) none (r 77) N 0) []
noncomputable def o79 (P : Params) : Obj := Tp []
noncomputable def o80 (P : Params) : Obj := mkO N none (.fields (ar [])) []
noncomputable def o81 (P : Params) : Obj := Tp [(Sv "a" 289), (Sv "b" 290)]
noncomputable def o82 (P : Params) : Obj := Tp []
noncomputable def o83 (P : Params) : Obj := mkO N none (fd 13 "rmul" 0 [] N N N N none N N 0) []
noncomputable def o84 (P : Params) : Obj := Cd [(Sv "rmul" 286), (Sv "rmul" 287), (Sv "/claim/cut.py" 288), (I (47) 0), (I (2) 0), (I (0) 0), (I (0) 0), (I (3) 0), (r 79), (b true), (I (181) 0), (r 80), N, (r 81), (r 82), (r 83), (I (291) 0), (I (47) 0), (Sv "/claim/cut.py" 292)]
noncomputable def o85 (P : Params) : Obj := mkO (ty "function") none (fd 13 "rmul" 3 [] N N N (Sv "cas.rats" 251) none (r 84) N 0) []
noncomputable def o86 (P : Params) : Obj := Tp []
noncomputable def o87 (P : Params) : Obj := mkO N none (.fields (ar [])) []
noncomputable def o88 (P : Params) : Obj := Tp [(Sv "a" 297), (Sv "b" 298)]
noncomputable def o89 (P : Params) : Obj := Tp []
noncomputable def o90 (P : Params) : Obj := mkO N none (fd 14 "rdiv" 0 [] N N N N none N N 0) []
noncomputable def o91 (P : Params) : Obj := Cd [(Sv "rdiv" 294), (Sv "rdiv" 295), (Sv "/claim/cut.py" 296), (I (49) 0), (I (2) 0), (I (0) 0), (I (0) 0), (I (3) 0), (r 86), (b true), (I (181) 0), (r 87), N, (r 88), (r 89), (r 90), (I (299) 0), (I (49) 0), (Sv "/claim/cut.py" 300)]
noncomputable def o92 (P : Params) : Obj := mkO (ty "function") none (fd 14 "rdiv" 3 [] N N N (Sv "cas.rats" 251) none (r 91) N 0) []
noncomputable def o93 (P : Params) : Obj := Tp []
noncomputable def o94 (P : Params) : Obj := mkO N none (.fields (ar [])) []
noncomputable def o95 (P : Params) : Obj := Tp [(Sv "a" 305)]
noncomputable def o96 (P : Params) : Obj := Tp []
noncomputable def o97 (P : Params) : Obj := mkO N none (fd 15 "rneg" 0 [] N N N N none N N 0) []
noncomputable def o98 (P : Params) : Obj := Cd [(Sv "rneg" 302), (Sv "rneg" 303), (Sv "/claim/cut.py" 304), (I (51) 0), (I (1) 0), (I (0) 0), (I (0) 0), (I (3) 0), (r 93), (b true), (I (181) 0), (r 94), N, (r 95), (r 96), (r 97), (I (306) 0), (I (51) 0), (Sv "/claim/cut.py" 307)]
noncomputable def o99 (P : Params) : Obj := mkO (ty "function") none (fd 15 "rneg" 3 [] N N N (Sv "cas.rats" 251) none (r 98) N 0) []
noncomputable def o100 (P : Params) : Obj := Tp []
noncomputable def o101 (P : Params) : Obj := mkO N none (.fields (ar [])) []
noncomputable def o102 (P : Params) : Obj := Tp [(Sv "a" 312)]
noncomputable def o103 (P : Params) : Obj := Tp []
noncomputable def o104 (P : Params) : Obj := mkO N none (fd 16 "rinv" 0 [] N N N N none N N 0) []
noncomputable def o105 (P : Params) : Obj := Cd [(Sv "rinv" 309), (Sv "rinv" 310), (Sv "/claim/cut.py" 311), (I (53) 0), (I (1) 0), (I (0) 0), (I (0) 0), (I (3) 0), (r 100), (b true), (I (181) 0), (r 101), N, (r 102), (r 103), (r 104), (I (313) 0), (I (53) 0), (Sv "/claim/cut.py" 314)]
noncomputable def o106 (P : Params) : Obj := mkO (ty "function") none (fd 16 "rinv" 3 [] N N N (Sv "cas.rats" 251) none (r 105) N 0) []
noncomputable def o107 (P : Params) : Obj := Tp []
noncomputable def o108 (P : Params) : Obj := mkO N none (.fields (ar [])) []
noncomputable def o109 (P : Params) : Obj := Tp [(Sv "a" 319), (Sv "n" 320), (Sv "greatest" 321)]
noncomputable def o110 (P : Params) : Obj := Tp []
noncomputable def o111 (P : Params) : Obj := mkO N none (fd 17 "rpower" 0 [] N N N N none N N 0) []
noncomputable def o112 (P : Params) : Obj := Cd [(Sv "rpower" 316), (Sv "rpower" 317), (Sv "/claim/cut.py" 318), (I (55) 0), (I (2) 0), (I (0) 0), (I (0) 0), (I (3) 0), (r 107), (b true), (I (181) 0), (r 108), N, (r 109), (r 110), (r 111), (I (322) 0), (I (55) 0), (Sv "/claim/cut.py" 323)]
noncomputable def o113 (P : Params) : Obj := mkO (ty "function") none (fd 17 "rpower" 3 [] N N N (Sv "cas.rats" 251) none (r 112) N 0) []
noncomputable def o114 (P : Params) : Obj := Tp []
noncomputable def o115 (P : Params) : Obj := mkO N none (.fields (ar [])) []
noncomputable def o116 (P : Params) : Obj := Tp [(Sv "a" 328), (Sv "greatest" 329)]
noncomputable def o117 (P : Params) : Obj := Tp []
noncomputable def o118 (P : Params) : Obj := mkO N none (fd 18 "is_vast" 0 [] N N N N none N N 0) []
noncomputable def o119 (P : Params) : Obj := Cd [(Sv "is_vast" 325), (Sv "is_vast" 326), (Sv "/claim/cut.py" 327), (I (62) 0), (I (1) 0), (I (0) 0), (I (0) 0), (I (3) 0), (r 114), (b true), (I (181) 0), (r 115), N, (r 116), (r 117), (r 118), (I (330) 0), (I (62) 0), (Sv "/claim/cut.py" 331)]
noncomputable def o120 (P : Params) : Obj := mkO (ty "function") none (fd 18 "is_vast" 3 [] N N N (Sv "cas.rats" 251) none (r 119) N 0) []
noncomputable def o121 (P : Params) : Obj := Tp []
noncomputable def o122 (P : Params) : Obj := mkO N none (.fields (ar [])) []
noncomputable def o123 (P : Params) : Obj := Tp [(Sv "a" 336), (Sv "b" 337), (Sv "off" 338)]
noncomputable def o124 (P : Params) : Obj := Tp []
noncomputable def o125 (P : Params) : Obj := mkO N none (fd 19 "rcompare" 0 [] N N N N none N N 0) []
noncomputable def o126 (P : Params) : Obj := Cd [(Sv "rcompare" 333), (Sv "rcompare" 334), (Sv "/claim/cut.py" 335), (I (65) 0), (I (2) 0), (I (0) 0), (I (0) 0), (I (3) 0), (r 121), (b true), (I (181) 0), (r 122), N, (r 123), (r 124), (r 125), (I (339) 0), (I (65) 0), (Sv "/claim/cut.py" 340)]
noncomputable def o127 (P : Params) : Obj := mkO (ty "function") none (fd 19 "rcompare" 3 [] N N N (Sv "cas.rats" 251) none (r 126) N 0) []
noncomputable def o128 (P : Params) : Obj := Tp []
noncomputable def o129 (P : Params) : Obj := mkO N none (.fields (ar [])) []
noncomputable def o130 (P : Params) : Obj := Tp [(Sv "a" 347), (Sv "order" 348)]
noncomputable def o131 (P : Params) : Obj := Tp []
noncomputable def o132 (P : Params) : Obj := mkO N none (fd 21 "cut" 0 [] N N N N none N N 0) []
noncomputable def o133 (P : Params) : Obj := Cd [(Sv "cut" 344), (Sv "cut" 345), (Sv "/claim/cut.py" 346), (I (69) 0), (I (2) 0), (I (0) 0), (I (0) 0), (I (3) 0), (r 128), (b true), (I (181) 0), (r 129), N, (r 130), (r 131), (r 132), (I (349) 0), (I (69) 0), (Sv "/claim/cut.py" 350)]
noncomputable def o134 (P : Params) : Obj := mkO (ty "function") none (fd 21 "cut" 3 [] N N N (Sv "cas.series" 342) none (r 133) N 0) []
noncomputable def o135 (P : Params) : Obj := Tp []
noncomputable def o136 (P : Params) : Obj := mkO N none (.fields (ar [])) []
noncomputable def o137 (P : Params) : Obj := Tp [(Sv "number" 355)]
noncomputable def o138 (P : Params) : Obj := Tp []
noncomputable def o139 (P : Params) : Obj := mkO N none (fd 22 "let" 0 [] N N N N none N N 0) []
noncomputable def o140 (P : Params) : Obj := Cd [(Sv "let" 352), (Sv "let" 353), (Sv "/claim/cut.py" 354), (I (71) 0), (I (1) 0), (I (0) 0), (I (0) 0), (I (3) 0), (r 135), (b true), (I (181) 0), (r 136), N, (r 137), (r 138), (r 139), (I (356) 0), (I (71) 0), (Sv "/claim/cut.py" 357)]
noncomputable def o141 (P : Params) : Obj := mkO (ty "function") none (fd 22 "let" 3 [] N N N (Sv "cas.series" 342) none (r 140) N 0) []
noncomputable def o142 (P : Params) : Obj := Tp []
noncomputable def o143 (P : Params) : Obj := mkO N none (.fields (ar [])) []
noncomputable def o144 (P : Params) : Obj := mkO N none (fd 23 "sadd" 0 [] N N N N none N N 0) []
noncomputable def o145 (P : Params) : Obj := Cd [(Sv "sadd" 359), (Sv "sadd" 360), (Sv "/claim/cut.py" 361), (I (75) 0), (I (2) 0), (I (0) 0), (I (0) 0), (I (3) 0), (r 142), (b true), (I (181) 0), (r 143), N, N, N, (r 144), (I (362) 0), (I (75) 0), (Sv "/claim/cut.py" 363)]
noncomputable def o146 (P : Params) : Obj := mkO (ty "function") none (fd 23 "sadd" 3 [] N N N (Sv "cas.series" 342) none (r 145) N 0) []
noncomputable def o147 (P : Params) : Obj := Tp []
noncomputable def o148 (P : Params) : Obj := mkO N none (.fields (ar [])) []
noncomputable def o149 (P : Params) : Obj := mkO N none (fd 24 "sscale" 0 [] N N N N none N N 0) []
noncomputable def o150 (P : Params) : Obj := Cd [(Sv "sscale" 365), (Sv "sscale" 366), (Sv "/claim/cut.py" 367), (I (77) 0), (I (2) 0), (I (0) 0), (I (0) 0), (I (3) 0), (r 147), (b true), (I (181) 0), (r 148), N, N, N, (r 149), (I (368) 0), (I (77) 0), (Sv "/claim/cut.py" 369)]
noncomputable def o151 (P : Params) : Obj := mkO (ty "function") none (fd 24 "sscale" 3 [] N N N (Sv "cas.series" 342) none (r 150) N 0) []
noncomputable def o152 (P : Params) : Obj := Tp []
noncomputable def o153 (P : Params) : Obj := mkO N none (.fields (ar [])) []
noncomputable def o154 (P : Params) : Obj := Tp [(Sv "a" 374), (Sv "b" 375), (Sv "at" 376), (Sv "found" 377), (Sv "spot" 378)]
noncomputable def o155 (P : Params) : Obj := Tp []
noncomputable def o156 (P : Params) : Obj := mkO N none (fd 25 "mixed" 0 [] N N N N none N N 0) []
noncomputable def o157 (P : Params) : Obj := Cd [(Sv "mixed" 371), (Sv "mixed" 372), (Sv "/claim/cut.py" 373), (I (79) 0), (I (3) 0), (I (0) 0), (I (0) 0), (I (3) 0), (r 152), (b true), (I (181) 0), (r 153), N, (r 154), (r 155), (r 156), (I (379) 0), (I (79) 0), (Sv "/claim/cut.py" 380)]
noncomputable def o158 (P : Params) : Obj := mkO (ty "function") none (fd 25 "mixed" 3 [] N N N (Sv "cas.series" 342) none (r 157) N 0) []
noncomputable def o159 (P : Params) : Obj := Tp []
noncomputable def o160 (P : Params) : Obj := mkO N none (.fields (ar [])) []
noncomputable def o161 (P : Params) : Obj := mkO N none (fd 26 "smul" 0 [] N N N N none N N 0) []
noncomputable def o162 (P : Params) : Obj := Cd [(Sv "smul" 382), (Sv "smul" 383), (Sv "/claim/cut.py" 384), (I (85) 0), (I (2) 0), (I (0) 0), (I (0) 0), (I (3) 0), (r 159), (b true), (I (181) 0), (r 160), N, N, N, (r 161), (I (385) 0), (I (85) 0), (Sv "/claim/cut.py" 386)]
noncomputable def o163 (P : Params) : Obj := mkO (ty "function") none (fd 26 "smul" 3 [] N N N (Sv "cas.series" 342) none (r 162) N 0) []
noncomputable def o164 (P : Params) : Obj := Tp []
noncomputable def o165 (P : Params) : Obj := mkO N none (.fields (ar [])) []
noncomputable def o166 (P : Params) : Obj := Tp [(Sv "a" 391), (Sv "found" 392), (Sv "at" 393), (Sv "total" 394), (Sv "spot" 395)]
noncomputable def o167 (P : Params) : Obj := Tp []
noncomputable def o168 (P : Params) : Obj := mkO N none (fd 27 "sinverse" 0 [] N N N N none N N 0) []
noncomputable def o169 (P : Params) : Obj := Cd [(Sv "sinverse" 388), (Sv "sinverse" 389), (Sv "/claim/cut.py" 390), (I (87) 0), (I (1) 0), (I (0) 0), (I (0) 0), (I (3) 0), (r 164), (b true), (I (181) 0), (r 165), N, (r 166), (r 167), (r 168), (I (396) 0), (I (87) 0), (Sv "/claim/cut.py" 397)]
noncomputable def o170 (P : Params) : Obj := mkO (ty "function") none (fd 27 "sinverse" 3 [] N N N (Sv "cas.series" 342) none (r 169) N 0) []
noncomputable def o171 (P : Params) : Obj := Tp []
noncomputable def o172 (P : Params) : Obj := mkO N none (.fields (ar [])) []
noncomputable def o173 (P : Params) : Obj := mkO N none (fd 28 "sderive" 0 [] N N N N none N N 0) []
noncomputable def o174 (P : Params) : Obj := Cd [(Sv "sderive" 399), (Sv "sderive" 400), (Sv "/claim/cut.py" 401), (I (97) 0), (I (1) 0), (I (0) 0), (I (0) 0), (I (3) 0), (r 171), (b true), (I (181) 0), (r 172), N, N, N, (r 173), (I (402) 0), (I (97) 0), (Sv "/claim/cut.py" 403)]
noncomputable def o175 (P : Params) : Obj := mkO (ty "function") none (fd 28 "sderive" 3 [] N N N (Sv "cas.series" 342) none (r 174) N 0) []
noncomputable def o176 (P : Params) : Obj := Tp []
noncomputable def o177 (P : Params) : Obj := mkO N none (.fields (ar [])) []
noncomputable def o178 (P : Params) : Obj := mkO N none (fd 29 "sintegrate" 0 [] N N N N none N N 0) []
noncomputable def o179 (P : Params) : Obj := Cd [(Sv "sintegrate" 405), (Sv "sintegrate" 406), (Sv "/claim/cut.py" 407), (I (99) 0), (I (1) 0), (I (0) 0), (I (0) 0), (I (3) 0), (r 176), (b true), (I (181) 0), (r 177), N, N, N, (r 178), (I (408) 0), (I (99) 0), (Sv "/claim/cut.py" 409)]
noncomputable def o180 (P : Params) : Obj := mkO (ty "function") none (fd 29 "sintegrate" 3 [] N N N (Sv "cas.series" 342) none (r 179) N 0) []
noncomputable def o181 (P : Params) : Obj := Tp []
noncomputable def o182 (P : Params) : Obj := mkO N none (.fields (ar [])) []
noncomputable def o183 (P : Params) : Obj := Tp [(Sv "a" 414), (Sv "number" 415)]
noncomputable def o184 (P : Params) : Obj := Tp []
noncomputable def o185 (P : Params) : Obj := mkO N none (fd 30 "need_begin" 0 [] N N N N none N N 0) []
noncomputable def o186 (P : Params) : Obj := Cd [(Sv "need_begin" 411), (Sv "need_begin" 412), (Sv "/claim/cut.py" 413), (I (101) 0), (I (2) 0), (I (0) 0), (I (0) 0), (I (3) 0), (r 181), (b true), (I (181) 0), (r 182), N, (r 183), (r 184), (r 185), (I (416) 0), (I (101) 0), (Sv "/claim/cut.py" 417)]
noncomputable def o187 (P : Params) : Obj := mkO (ty "function") none (fd 30 "need_begin" 3 [] N N N (Sv "cas.series" 342) none (r 186) N 0) []
noncomputable def o188 (P : Params) : Obj := Tp []
noncomputable def o189 (P : Params) : Obj := mkO N none (.fields (ar [])) []
noncomputable def o190 (P : Params) : Obj := Tp [(Sv "a" 422), (Sv "found" 423), (Sv "at" 424), (Sv "total" 425), (Sv "spot" 426)]
noncomputable def o191 (P : Params) : Obj := Tp []
noncomputable def o192 (P : Params) : Obj := mkO N none (fd 31 "sexp" 0 [] N N N N none N N 0) []
noncomputable def o193 (P : Params) : Obj := Cd [(Sv "sexp" 419), (Sv "sexp" 420), (Sv "/claim/cut.py" 421), (I (104) 0), (I (1) 0), (I (0) 0), (I (0) 0), (I (3) 0), (r 188), (b true), (I (181) 0), (r 189), N, (r 190), (r 191), (r 192), (I (427) 0), (I (104) 0), (Sv "/claim/cut.py" 428)]
noncomputable def o194 (P : Params) : Obj := mkO (ty "function") none (fd 31 "sexp" 3 [] N N N (Sv "cas.series" 342) none (r 193) N 0) []
noncomputable def o195 (P : Params) : Obj := Tp []
noncomputable def o196 (P : Params) : Obj := mkO N none (.fields (ar [])) []
noncomputable def o197 (P : Params) : Obj := Tp [(Sv "a" 433)]
noncomputable def o198 (P : Params) : Obj := Tp []
noncomputable def o199 (P : Params) : Obj := mkO N none (fd 32 "slog" 0 [] N N N N none N N 0) []
noncomputable def o200 (P : Params) : Obj := Cd [(Sv "slog" 430), (Sv "slog" 431), (Sv "/claim/cut.py" 432), (I (113) 0), (I (1) 0), (I (0) 0), (I (0) 0), (I (3) 0), (r 195), (b true), (I (181) 0), (r 196), N, (r 197), (r 198), (r 199), (I (434) 0), (I (113) 0), (Sv "/claim/cut.py" 435)]
noncomputable def o201 (P : Params) : Obj := mkO (ty "function") none (fd 32 "slog" 3 [] N N N (Sv "cas.series" 342) none (r 200) N 0) []
noncomputable def o202 (P : Params) : Obj := Tp []
noncomputable def o203 (P : Params) : Obj := mkO N none (.fields (ar [])) []
noncomputable def o204 (P : Params) : Obj := Tp [(Sv "a" 440), (Sv "sines" 441), (Sv "others" 442), (Sv "at" 443), (Sv "one" 444), (Sv "other" 445), (Sv "spot" 446), (Sv "moved" 447)]
noncomputable def o205 (P : Params) : Obj := Tp []
noncomputable def o206 (P : Params) : Obj := mkO N none (fd 33 "ssin_cos" 0 [] N N N N none N N 0) []
noncomputable def o207 (P : Params) : Obj := Cd [(Sv "ssin_cos" 437), (Sv "ssin_cos" 438), (Sv "/claim/cut.py" 439), (I (118) 0), (I (1) 0), (I (0) 0), (I (0) 0), (I (3) 0), (r 202), (b true), (I (181) 0), (r 203), N, (r 204), (r 205), (r 206), (I (448) 0), (I (118) 0), (Sv "/claim/cut.py" 449)]
noncomputable def o208 (P : Params) : Obj := mkO (ty "function") none (fd 33 "ssin_cos" 3 [] N N N (Sv "cas.series" 342) none (r 207) N 0) []
noncomputable def o209 (P : Params) : Obj := Tp []
noncomputable def o210 (P : Params) : Obj := mkO N none (.fields (ar [])) []
noncomputable def o211 (P : Params) : Obj := Tp [(Sv "a" 454)]
noncomputable def o212 (P : Params) : Obj := Tp []
noncomputable def o213 (P : Params) : Obj := mkO N none (fd 34 "ssin" 0 [] N N N N none N N 0) []
noncomputable def o214 (P : Params) : Obj := Cd [(Sv "ssin" 451), (Sv "ssin" 452), (Sv "/claim/cut.py" 453), (I (130) 0), (I (1) 0), (I (0) 0), (I (0) 0), (I (3) 0), (r 209), (b true), (I (181) 0), (r 210), N, (r 211), (r 212), (r 213), (I (455) 0), (I (130) 0), (Sv "/claim/cut.py" 456)]
noncomputable def o215 (P : Params) : Obj := mkO (ty "function") none (fd 34 "ssin" 3 [] N N N (Sv "cas.series" 342) none (r 214) N 0) []
noncomputable def o216 (P : Params) : Obj := Tp []
noncomputable def o217 (P : Params) : Obj := mkO N none (.fields (ar [])) []
noncomputable def o218 (P : Params) : Obj := Tp [(Sv "a" 461)]
noncomputable def o219 (P : Params) : Obj := Tp []
noncomputable def o220 (P : Params) : Obj := mkO N none (fd 35 "scos" 0 [] N N N N none N N 0) []
noncomputable def o221 (P : Params) : Obj := Cd [(Sv "scos" 458), (Sv "scos" 459), (Sv "/claim/cut.py" 460), (I (132) 0), (I (1) 0), (I (0) 0), (I (0) 0), (I (3) 0), (r 216), (b true), (I (181) 0), (r 217), N, (r 218), (r 219), (r 220), (I (462) 0), (I (132) 0), (Sv "/claim/cut.py" 463)]
noncomputable def o222 (P : Params) : Obj := mkO (ty "function") none (fd 35 "scos" 3 [] N N N (Sv "cas.series" 342) none (r 221) N 0) []
noncomputable def o223 (P : Params) : Obj := Tp []
noncomputable def o224 (P : Params) : Obj := mkO N none (.fields (ar [])) []
noncomputable def o225 (P : Params) : Obj := Tp [(Sv "a" 468), (Sv "square" 469)]
noncomputable def o226 (P : Params) : Obj := Tp []
noncomputable def o227 (P : Params) : Obj := mkO N none (fd 36 "satan" 0 [] N N N N none N N 0) []
noncomputable def o228 (P : Params) : Obj := Cd [(Sv "satan" 465), (Sv "satan" 466), (Sv "/claim/cut.py" 467), (I (134) 0), (I (1) 0), (I (0) 0), (I (0) 0), (I (3) 0), (r 223), (b true), (I (181) 0), (r 224), N, (r 225), (r 226), (r 227), (I (470) 0), (I (134) 0), (Sv "/claim/cut.py" 471)]
noncomputable def o229 (P : Params) : Obj := mkO (ty "function") none (fd 36 "satan" 3 [] N N N (Sv "cas.series" 342) none (r 228) N 0) []
noncomputable def o230 (P : Params) : Obj := Tp []
noncomputable def o231 (P : Params) : Obj := mkO N none (.fields (ar [])) []
noncomputable def o232 (P : Params) : Obj := Tp [(Sv "a" 476), (Sv "number" 477), (Sv "found" 478), (Sv "at" 479), (Sv "total" 480), (Sv "spot" 481), (Sv "times" 482)]
noncomputable def o233 (P : Params) : Obj := Tp []
noncomputable def o234 (P : Params) : Obj := mkO N none (fd 37 "spower" 0 [] N N N N none N N 0) []
noncomputable def o235 (P : Params) : Obj := Cd [(Sv "spower" 473), (Sv "spower" 474), (Sv "/claim/cut.py" 475), (I (141) 0), (I (2) 0), (I (0) 0), (I (0) 0), (I (3) 0), (r 230), (b true), (I (181) 0), (r 231), N, (r 232), (r 233), (r 234), (I (483) 0), (I (141) 0), (Sv "/claim/cut.py" 484)]
noncomputable def o236 (P : Params) : Obj := mkO (ty "function") none (fd 37 "spower" 3 [] N N N (Sv "cas.series" 342) none (r 235) N 0) []
noncomputable def o237 (P : Params) : Obj := Tp []
noncomputable def o238 (P : Params) : Obj := mkO N none (.fields (ar [])) []
noncomputable def o239 (P : Params) : Obj := Tp [(Sv "a" 489), (Sv "many" 490), (Sv "base" 491), (Sv "found" 492), (Sv "left" 493)]
noncomputable def o240 (P : Params) : Obj := Tp []
noncomputable def o241 (P : Params) : Obj := mkO N none (fd 38 "swhole_power" 0 [] N N N N none N N 0) []
noncomputable def o242 (P : Params) : Obj := Cd [(Sv "swhole_power" 486), (Sv "swhole_power" 487), (Sv "/claim/cut.py" 488), (I (151) 0), (I (2) 0), (I (0) 0), (I (0) 0), (I (3) 0), (r 237), (b true), (I (181) 0), (r 238), N, (r 239), (r 240), (r 241), (I (494) 0), (I (151) 0), (Sv "/claim/cut.py" 495)]
noncomputable def o243 (P : Params) : Obj := mkO (ty "function") none (fd 38 "swhole_power" 3 [] N N N (Sv "cas.series" 342) none (r 242) N 0) []
noncomputable def o244 (P : Params) : Obj := Tp []
noncomputable def o245 (P : Params) : Obj := mkO N none (.fields (ar [])) []
noncomputable def o246 (P : Params) : Obj := Tp [(Sv "number" 504), (Sv "many" 505)]
noncomputable def o247 (P : Params) : Obj := Tp []
noncomputable def o248 (P : Params) : Obj := mkO N none (fd 41 "lplain" 0 [] N N N N none N N 0) []
noncomputable def o249 (P : Params) : Obj := Cd [(Sv "lplain" 501), (Sv "lplain" 502), (Sv "/claim/cut.py" 503), (I (162) 0), (I (2) 0), (I (0) 0), (I (0) 0), (I (3) 0), (r 244), (b true), (I (181) 0), (r 245), N, (r 246), (r 247), (r 248), (I (506) 0), (I (162) 0), (Sv "/claim/cut.py" 507)]
noncomputable def o250 (P : Params) : Obj := mkO (ty "function") none (fd 41 "lplain" 3 [] N N N (Sv "cas.laurent" 497) none (r 249) N 0) []
noncomputable def o251 (P : Params) : Obj := Tp []
noncomputable def o252 (P : Params) : Obj := mkO N none (.fields (ar [])) []
noncomputable def o253 (P : Params) : Obj := mkO N none (fd 42 "ladd" 0 [] N N N N none N N 0) []
noncomputable def o254 (P : Params) : Obj := Cd [(Sv "ladd" 509), (Sv "ladd" 510), (Sv "/claim/cut.py" 511), (I (164) 0), (I (2) 0), (I (0) 0), (I (0) 0), (I (3) 0), (r 251), (b true), (I (181) 0), (r 252), N, N, N, (r 253), (I (512) 0), (I (164) 0), (Sv "/claim/cut.py" 513)]
noncomputable def o255 (P : Params) : Obj := mkO (ty "function") none (fd 42 "ladd" 3 [] N N N (Sv "cas.laurent" 497) none (r 254) N 0) []
noncomputable def o256 (P : Params) : Obj := Tp []
noncomputable def o257 (P : Params) : Obj := mkO N none (.fields (ar [])) []
noncomputable def o258 (P : Params) : Obj := Tp [(Sv "a" 518), (Sv "b" 519)]
noncomputable def o259 (P : Params) : Obj := Tp []
noncomputable def o260 (P : Params) : Obj := mkO N none (fd 43 "lmul" 0 [] N N N N none N N 0) []
noncomputable def o261 (P : Params) : Obj := Cd [(Sv "lmul" 515), (Sv "lmul" 516), (Sv "/claim/cut.py" 517), (I (169) 0), (I (2) 0), (I (0) 0), (I (0) 0), (I (3) 0), (r 256), (b true), (I (181) 0), (r 257), N, (r 258), (r 259), (r 260), (I (520) 0), (I (169) 0), (Sv "/claim/cut.py" 521)]
noncomputable def o262 (P : Params) : Obj := mkO (ty "function") none (fd 43 "lmul" 3 [] N N N (Sv "cas.laurent" 497) none (r 261) N 0) []
noncomputable def o263 (P : Params) : Obj := Tp []
noncomputable def o264 (P : Params) : Obj := mkO N none (.fields (ar [])) []
noncomputable def o265 (P : Params) : Obj := Tp [(Sv "a" 526), (Sv "low" 527), (Sv "rest" 528)]
noncomputable def o266 (P : Params) : Obj := Tp []
noncomputable def o267 (P : Params) : Obj := mkO N none (fd 44 "ltrim" 0 [] N N N N none N N 0) []
noncomputable def o268 (P : Params) : Obj := Cd [(Sv "ltrim" 523), (Sv "ltrim" 524), (Sv "/claim/cut.py" 525), (I (171) 0), (I (1) 0), (I (0) 0), (I (0) 0), (I (3) 0), (r 263), (b true), (I (181) 0), (r 264), N, (r 265), (r 266), (r 267), (I (529) 0), (I (171) 0), (Sv "/claim/cut.py" 530)]
noncomputable def o269 (P : Params) : Obj := mkO (ty "function") none (fd 44 "ltrim" 3 [] N N N (Sv "cas.laurent" 497) none (r 268) N 0) []
noncomputable def o270 (P : Params) : Obj := Tp []
noncomputable def o271 (P : Params) : Obj := mkO N none (.fields (ar [])) []
noncomputable def o272 (P : Params) : Obj := Tp [(Sv "a" 535), (Sv "low" 536), (Sv "rest" 537)]
noncomputable def o273 (P : Params) : Obj := Tp []
noncomputable def o274 (P : Params) : Obj := mkO N none (fd 45 "linverse" 0 [] N N N N none N N 0) []
noncomputable def o275 (P : Params) : Obj := Cd [(Sv "linverse" 532), (Sv "linverse" 533), (Sv "/claim/cut.py" 534), (I (176) 0), (I (1) 0), (I (0) 0), (I (0) 0), (I (3) 0), (r 270), (b true), (I (181) 0), (r 271), N, (r 272), (r 273), (r 274), (I (538) 0), (I (176) 0), (Sv "/claim/cut.py" 539)]
noncomputable def o276 (P : Params) : Obj := mkO (ty "function") none (fd 45 "linverse" 3 [] N N N (Sv "cas.laurent" 497) none (r 275) N 0) []
noncomputable def o277 (P : Params) : Obj := Tp []
noncomputable def o278 (P : Params) : Obj := mkO N none (.fields (ar [])) []
noncomputable def o279 (P : Params) : Obj := Tp [(Sv "a" 544), (Sv "many" 545), (Sv "low" 546), (Sv "rest" 547), (Sv "first" 548)]
noncomputable def o280 (P : Params) : Obj := Tp []
noncomputable def o281 (P : Params) : Obj := mkO N none (fd 46 "lpower" 0 [] N N N N none N N 0) []
noncomputable def o282 (P : Params) : Obj := Cd [(Sv "lpower" 541), (Sv "lpower" 542), (Sv "/claim/cut.py" 543), (I (181) 0), (I (2) 0), (I (0) 0), (I (0) 0), (I (3) 0), (r 277), (b true), (I (181) 0), (r 278), N, (r 279), (r 280), (r 281), (I (549) 0), (I (181) 0), (Sv "/claim/cut.py" 550)]
noncomputable def o283 (P : Params) : Obj := mkO (ty "function") none (fd 46 "lpower" 3 [] N N N (Sv "cas.laurent" 497) none (r 282) N 0) []
noncomputable def o284 (P : Params) : Obj := Tp []
noncomputable def o285 (P : Params) : Obj := mkO N none (.fields (ar [])) []
noncomputable def o286 (P : Params) : Obj := Tp [(Sv "number" 557), (Sv "many" 558), (Sv "top" 559), (Sv "bottom" 560)]
noncomputable def o287 (P : Params) : Obj := Tp []
noncomputable def o288 (P : Params) : Obj := mkO N none (fd 48 "exact_root" 0 [] N N N N none N N 0) []
noncomputable def o289 (P : Params) : Obj := Cd [(Sv "exact_root" 554), (Sv "exact_root" 555), (Sv "/claim/cut.py" 556), (I (192) 0), (I (2) 0), (I (0) 0), (I (0) 0), (I (3) 0), (r 284), (b true), (I (181) 0), (r 285), N, (r 286), (r 287), (r 288), (I (561) 0), (I (192) 0), (Sv "/claim/cut.py" 562)]
noncomputable def o290 (P : Params) : Obj := mkO (ty "function") none (fd 48 "exact_root" 3 [] N N N (Sv "cas.series_of" 552) none (r 289) N 0) []
noncomputable def o291 (P : Params) : Obj := Tp []
noncomputable def o292 (P : Params) : Obj := mkO N none (.fields (ar [])) []
noncomputable def o293 (P : Params) : Obj := Tp [(Sv "told" 567), (Sv "many" 568), (Sv "low" 569), (Sv "rest" 570)]
noncomputable def o294 (P : Params) : Obj := Tp []
noncomputable def o295 (P : Params) : Obj := mkO N none (fd 49 "from_zero" 0 [] N N N N none N N 0) []
noncomputable def o296 (P : Params) : Obj := Cd [(Sv "from_zero" 564), (Sv "from_zero" 565), (Sv "/claim/cut.py" 566), (I (195) 0), (I (2) 0), (I (0) 0), (I (0) 0), (I (3) 0), (r 291), (b true), (I (181) 0), (r 292), N, (r 293), (r 294), (r 295), (I (571) 0), (I (195) 0), (Sv "/claim/cut.py" 572)]
noncomputable def o297 (P : Params) : Obj := mkO (ty "function") none (fd 49 "from_zero" 3 [] N N N (Sv "cas.series_of" 552) none (r 296) N 0) []
noncomputable def o298 (P : Params) : Obj := Tp []
noncomputable def o299 (P : Params) : Obj := mkO N none (.fields (ar [])) []
noncomputable def o300 (P : Params) : Obj := Tp [(Sv "name" 577), (Sv "told" 578), (Sv "many" 579), (Sv "low" 580), (Sv "rest" 581), (Sv "inner" 582)]
noncomputable def o301 (P : Params) : Obj := Tp []
noncomputable def o302 (P : Params) : Obj := mkO N none (fd 50 "of_call" 0 [] N N N N none N N 0) []
noncomputable def o303 (P : Params) : Obj := Cd [(Sv "of_call" 574), (Sv "of_call" 575), (Sv "/claim/cut.py" 576), (I (202) 0), (I (3) 0), (I (0) 0), (I (0) 0), (I (3) 0), (r 298), (b true), (I (181) 0), (r 299), N, (r 300), (r 301), (r 302), (I (583) 0), (I (202) 0), (Sv "/claim/cut.py" 584)]
noncomputable def o304 (P : Params) : Obj := mkO (ty "function") none (fd 50 "of_call" 3 [] N N N (Sv "cas.series_of" 552) none (r 303) N 0) []
noncomputable def o305 (P : Params) : Obj := Tp []
noncomputable def o306 (P : Params) : Obj := mkO N none (.fields (ar [])) []
noncomputable def o307 (P : Params) : Obj := Tp [(Sv "told" 589), (Sv "number" 590), (Sv "low" 591), (Sv "rest" 592), (Sv "first" 593), (Sv "begin" 594)]
noncomputable def o308 (P : Params) : Obj := Tp []
noncomputable def o309 (P : Params) : Obj := mkO N none (fd 51 "of_root" 0 [] N N N N none N N 0) []
noncomputable def o310 (P : Params) : Obj := Cd [(Sv "of_root" 586), (Sv "of_root" 587), (Sv "/claim/cut.py" 588), (I (220) 0), (I (2) 0), (I (0) 0), (I (0) 0), (I (3) 0), (r 305), (b true), (I (181) 0), (r 306), N, (r 307), (r 308), (r 309), (I (595) 0), (I (220) 0), (Sv "/claim/cut.py" 596)]
noncomputable def o311 (P : Params) : Obj := mkO (ty "function") none (fd 51 "of_root" 3 [] N N N (Sv "cas.series_of" 552) none (r 310) N 0) []
noncomputable def o312 (P : Params) : Obj := Tp []
noncomputable def o313 (P : Params) : Obj := mkO N none (.fields (ar [])) []
noncomputable def o314 (P : Params) : Obj := Tp [(Sv "base" 601), (Sv "exponent" 602), (Sv "many" 603), (Sv "letter" 604), (Sv "told" 605)]
noncomputable def o315 (P : Params) : Obj := Tp []
noncomputable def o316 (P : Params) : Obj := mkO N none (fd 52 "of_power" 0 [] N N N N none N N 0) []
noncomputable def o317 (P : Params) : Obj := Cd [(Sv "of_power" 598), (Sv "of_power" 599), (Sv "/claim/cut.py" 600), (I (233) 0), (I (4) 0), (I (0) 0), (I (0) 0), (I (3) 0), (r 312), (b true), (I (181) 0), (r 313), N, (r 314), (r 315), (r 316), (I (606) 0), (I (233) 0), (Sv "/claim/cut.py" 607)]
noncomputable def o318 (P : Params) : Obj := mkO (ty "function") none (fd 52 "of_power" 3 [] N N N (Sv "cas.series_of" 552) none (r 317) N 0) []
noncomputable def o319 (P : Params) : Obj := Tp []
noncomputable def o320 (P : Params) : Obj := mkO N none (.fields (ar [])) []
noncomputable def o321 (P : Params) : Obj := Tp [(Sv "some" 612), (Sv "many" 613), (Sv "found" 614), (Sv "told" 615)]
noncomputable def o322 (P : Params) : Obj := Tp []
noncomputable def o323 (P : Params) : Obj := mkO N none (fd 53 "of_sum" 0 [] N N N N none N N 0) []
noncomputable def o324 (P : Params) : Obj := Cd [(Sv "of_sum" 609), (Sv "of_sum" 610), (Sv "/claim/cut.py" 611), (I (242) 0), (I (2) 0), (I (0) 0), (I (0) 0), (I (3) 0), (r 319), (b true), (I (181) 0), (r 320), N, (r 321), (r 322), (r 323), (I (616) 0), (I (242) 0), (Sv "/claim/cut.py" 617)]
noncomputable def o325 (P : Params) : Obj := mkO (ty "function") none (fd 53 "of_sum" 3 [] N N N (Sv "cas.series_of" 552) none (r 324) N 0) []
noncomputable def o326 (P : Params) : Obj := Tp []
noncomputable def o327 (P : Params) : Obj := mkO N none (.fields (ar [])) []
noncomputable def o328 (P : Params) : Obj := mkO N none (fd 54 "of_term" 0 [] N N N N none N N 0) []
noncomputable def o329 (P : Params) : Obj := Cd [(Sv "of_term" 619), (Sv "of_term" 620), (Sv "/claim/cut.py" 621), (I (247) 0), (I (3) 0), (I (0) 0), (I (0) 0), (I (3) 0), (r 326), (b true), (I (181) 0), (r 327), N, N, N, (r 328), (I (622) 0), (I (247) 0), (Sv "/claim/cut.py" 623)]
noncomputable def o330 (P : Params) : Obj := mkO (ty "function") none (fd 54 "of_term" 3 [] N N N (Sv "cas.series_of" 552) none (r 329) N 0) []
noncomputable def o331 (P : Params) : Obj := Tp []
noncomputable def o332 (P : Params) : Obj := Tp [(r 331), (r 56), (I (0) 627)]
noncomputable def o333 (P : Params) : Obj := Tp []
noncomputable def o334 (P : Params) : Obj := mkO N none (.fields (ar [])) []
noncomputable def o335 (P : Params) : Obj := Tp [(Sv "found" 636), (Sv "kind" 637), (Sv "number" 638), (Sv "total" 639)]
noncomputable def o336 (P : Params) : Obj := Tp []
noncomputable def o337 (P : Params) : Obj := mkO N none (fd 59 "ginsert" 0 [] N N N N none N N 0) []
noncomputable def o338 (P : Params) : Obj := Cd [(Sv "ginsert" 633), (Sv "ginsert" 634), (Sv "/claim/cut.py" 635), (I (273) 0), (I (3) 0), (I (0) 0), (I (0) 0), (I (3) 0), (r 333), (b true), (I (181) 0), (r 334), N, (r 335), (r 336), (r 337), (I (640) 0), (I (273) 0), (Sv "/claim/cut.py" 641)]
noncomputable def o339 (P : Params) : Obj := mkO (ty "function") none (fd 59 "ginsert" 3 [] N N N (Sv "cas.growth" 625) none (r 338) N 0) []
noncomputable def o340 (P : Params) : Obj := Tp []
noncomputable def o341 (P : Params) : Obj := mkO N none (.fields (ar [])) []
noncomputable def o342 (P : Params) : Obj := Tp [(Sv "a" 646), (Sv "b" 647), (Sv "found" 648), (Sv "kind" 649)]
noncomputable def o343 (P : Params) : Obj := Tp []
noncomputable def o344 (P : Params) : Obj := mkO N none (fd 60 "gadd" 0 [] N N N N none N N 0) []
noncomputable def o345 (P : Params) : Obj := Cd [(Sv "gadd" 643), (Sv "gadd" 644), (Sv "/claim/cut.py" 645), (I (279) 0), (I (2) 0), (I (0) 0), (I (0) 0), (I (3) 0), (r 340), (b true), (I (181) 0), (r 341), N, (r 342), (r 343), (r 344), (I (650) 0), (I (279) 0), (Sv "/claim/cut.py" 651)]
noncomputable def o346 (P : Params) : Obj := mkO (ty "function") none (fd 60 "gadd" 3 [] N N N (Sv "cas.growth" 625) none (r 345) N 0) []
noncomputable def o347 (P : Params) : Obj := Tp []
noncomputable def o348 (P : Params) : Obj := mkO N none (.fields (ar [])) []
noncomputable def o349 (P : Params) : Obj := mkO N none (fd 61 "poly_sum" 0 [] N N N N none N N 0) []
noncomputable def o350 (P : Params) : Obj := Cd [(Sv "poly_sum" 653), (Sv "poly_sum" 654), (Sv "/claim/cut.py" 655), (I (284) 0), (I (2) 0), (I (0) 0), (I (0) 0), (I (3) 0), (r 347), (b true), (I (181) 0), (r 348), N, N, N, (r 349), (I (656) 0), (I (284) 0), (Sv "/claim/cut.py" 657)]
noncomputable def o351 (P : Params) : Obj := mkO (ty "function") none (fd 61 "poly_sum" 3 [] N N N (Sv "cas.growth" 625) none (r 350) N 0) []
noncomputable def o352 (P : Params) : Obj := Tp []
noncomputable def o353 (P : Params) : Obj := mkO N none (.fields (ar [])) []
noncomputable def o354 (P : Params) : Obj := Tp [(Sv "one" 662), (Sv "other" 663)]
noncomputable def o355 (P : Params) : Obj := Tp []
noncomputable def o356 (P : Params) : Obj := mkO N none (fd 62 "kind_product" 0 [] N N N N none N N 0) []
noncomputable def o357 (P : Params) : Obj := Cd [(Sv "kind_product" 659), (Sv "kind_product" 660), (Sv "/claim/cut.py" 661), (I (289) 0), (I (2) 0), (I (0) 0), (I (0) 0), (I (3) 0), (r 352), (b true), (I (181) 0), (r 353), N, (r 354), (r 355), (r 356), (I (664) 0), (I (289) 0), (Sv "/claim/cut.py" 665)]
noncomputable def o358 (P : Params) : Obj := mkO (ty "function") none (fd 62 "kind_product" 3 [] N N N (Sv "cas.growth" 625) none (r 357) N 0) []
noncomputable def o359 (P : Params) : Obj := Tp []
noncomputable def o360 (P : Params) : Obj := mkO N none (.fields (ar [])) []
noncomputable def o361 (P : Params) : Obj := Tp [(Sv "a" 670), (Sv "b" 671), (Sv "found" 672), (Sv "one" 673), (Sv "other" 674)]
noncomputable def o362 (P : Params) : Obj := Tp []
noncomputable def o363 (P : Params) : Obj := mkO N none (fd 63 "gmul" 0 [] N N N N none N N 0) []
noncomputable def o364 (P : Params) : Obj := Cd [(Sv "gmul" 667), (Sv "gmul" 668), (Sv "/claim/cut.py" 669), (I (291) 0), (I (2) 0), (I (0) 0), (I (0) 0), (I (3) 0), (r 359), (b true), (I (181) 0), (r 360), N, (r 361), (r 362), (r 363), (I (675) 0), (I (291) 0), (Sv "/claim/cut.py" 676)]
noncomputable def o365 (P : Params) : Obj := mkO (ty "function") none (fd 63 "gmul" 3 [] N N N (Sv "cas.growth" 625) none (r 364) N 0) []
noncomputable def o366 (P : Params) : Obj := Tp []
noncomputable def o367 (P : Params) : Obj := mkO N none (.fields (ar [])) []
noncomputable def o368 (P : Params) : Obj := mkO N none (fd 64 "kind_compare" 0 [] N N N N none N N 0) []
noncomputable def o369 (P : Params) : Obj := Cd [(Sv "kind_compare" 678), (Sv "kind_compare" 679), (Sv "/claim/cut.py" 680), (I (299) 0), (I (2) 0), (I (0) 0), (I (0) 0), (I (3) 0), (r 366), (b true), (I (181) 0), (r 367), N, N, N, (r 368), (I (681) 0), (I (299) 0), (Sv "/claim/cut.py" 682)]
noncomputable def o370 (P : Params) : Obj := mkO (ty "function") none (fd 64 "kind_compare" 3 [] N N N (Sv "cas.growth" 625) none (r 369) N 0) []
noncomputable def o371 (P : Params) : Obj := Tp []
noncomputable def o372 (P : Params) : Obj := mkO N none (.fields (ar [])) []
noncomputable def o373 (P : Params) : Obj := Tp [(Sv "a" 687), (Sv "found" 688), (Sv "kind" 689)]
noncomputable def o374 (P : Params) : Obj := Tp []
noncomputable def o375 (P : Params) : Obj := mkO N none (fd 65 "fastest" 0 [] N N N N none N N 0) []
noncomputable def o376 (P : Params) : Obj := Cd [(Sv "fastest" 684), (Sv "fastest" 685), (Sv "/claim/cut.py" 686), (I (305) 0), (I (1) 0), (I (0) 0), (I (0) 0), (I (3) 0), (r 371), (b true), (I (181) 0), (r 372), N, (r 373), (r 374), (r 375), (I (690) 0), (I (305) 0), (Sv "/claim/cut.py" 691)]
noncomputable def o377 (P : Params) : Obj := mkO (ty "function") none (fd 65 "fastest" 3 [] N N N (Sv "cas.growth" 625) none (r 376) N 0) []
noncomputable def o378 (P : Params) : Obj := Tp []
noncomputable def o379 (P : Params) : Obj := mkO N none (.fields (ar [])) []
noncomputable def o380 (P : Params) : Obj := Tp [(Sv "a" 696), (Sv "found" 697), (Sv "kind" 698)]
noncomputable def o381 (P : Params) : Obj := Tp []
noncomputable def o382 (P : Params) : Obj := mkO N none (fd 66 "exponent_of" 0 [] N N N N none N N 0) []
noncomputable def o383 (P : Params) : Obj := Cd [(Sv "exponent_of" 693), (Sv "exponent_of" 694), (Sv "/claim/cut.py" 695), (I (311) 0), (I (1) 0), (I (0) 0), (I (0) 0), (I (3) 0), (r 378), (b true), (I (181) 0), (r 379), N, (r 380), (r 381), (r 382), (I (699) 0), (I (311) 0), (Sv "/claim/cut.py" 700)]
noncomputable def o384 (P : Params) : Obj := mkO (ty "function") none (fd 66 "exponent_of" 3 [] N N N (Sv "cas.growth" 625) none (r 383) N 0) []
noncomputable def o385 (P : Params) : Obj := Tp []
noncomputable def o386 (P : Params) : Obj := mkO N none (.fields (ar [])) []
noncomputable def o387 (P : Params) : Obj := mkO N none (fd 67 "gpower" 0 [] N N N N none N N 0) []
noncomputable def o388 (P : Params) : Obj := Cd [(Sv "gpower" 702), (Sv "gpower" 703), (Sv "/claim/cut.py" 704), (I (318) 0), (I (2) 0), (I (0) 0), (I (0) 0), (I (3) 0), (r 385), (b true), (I (181) 0), (r 386), N, N, N, (r 387), (I (705) 0), (I (318) 0), (Sv "/claim/cut.py" 706)]
noncomputable def o389 (P : Params) : Obj := mkO (ty "function") none (fd 67 "gpower" 3 [] N N N (Sv "cas.growth" 625) none (r 388) N 0) []
noncomputable def o390 (P : Params) : Obj := Tp []
noncomputable def o391 (P : Params) : Obj := mkO N none (.fields (ar [])) []
noncomputable def o392 (P : Params) : Obj := Tp [(Sv "told" 711), (Sv "many" 712), (Sv "top" 713), (Sv "bottom" 714)]
noncomputable def o393 (P : Params) : Obj := Tp []
noncomputable def o394 (P : Params) : Obj := mkO N none (fd 68 "gratio_power" 0 [] N N N N none N N 0) []
noncomputable def o395 (P : Params) : Obj := Cd [(Sv "gratio_power" 708), (Sv "gratio_power" 709), (Sv "/claim/cut.py" 710), (I (336) 0), (I (2) 0), (I (0) 0), (I (0) 0), (I (3) 0), (r 390), (b true), (I (181) 0), (r 391), N, (r 392), (r 393), (r 394), (I (715) 0), (I (336) 0), (Sv "/claim/cut.py" 716)]
noncomputable def o396 (P : Params) : Obj := mkO (ty "function") none (fd 68 "gratio_power" 3 [] N N N (Sv "cas.growth" 625) none (r 395) N 0) []
noncomputable def o397 (P : Params) : Obj := Tp []
noncomputable def o398 (P : Params) : Obj := mkO N none (.fields (ar [])) []
noncomputable def o399 (P : Params) : Obj := mkO N none (fd 69 "groot" 0 [] N N N N none N N 0) []
noncomputable def o400 (P : Params) : Obj := Cd [(Sv "groot" 718), (Sv "groot" 719), (Sv "/claim/cut.py" 720), (I (341) 0), (I (2) 0), (I (0) 0), (I (0) 0), (I (3) 0), (r 397), (b true), (I (181) 0), (r 398), N, N, N, (r 399), (I (721) 0), (I (341) 0), (Sv "/claim/cut.py" 722)]
noncomputable def o401 (P : Params) : Obj := mkO (ty "function") none (fd 69 "groot" 3 [] N N N (Sv "cas.growth" 625) none (r 400) N 0) []
noncomputable def o402 (P : Params) : Obj := Tp []
noncomputable def o403 (P : Params) : Obj := mkO N none (.fields (ar [])) []
noncomputable def o404 (P : Params) : Obj := Tp [(Sv "t" 727), (Sv "name" 728), (Sv "found" 729), (Sv "one" 730), (Sv "told" 731)]
noncomputable def o405 (P : Params) : Obj := Tp []
noncomputable def o406 (P : Params) : Obj := mkO N none (fd 70 "growth_of" 0 [] N N N N none N N 0) []
noncomputable def o407 (P : Params) : Obj := Cd [(Sv "growth_of" 724), (Sv "growth_of" 725), (Sv "/claim/cut.py" 726), (I (352) 0), (I (2) 0), (I (0) 0), (I (0) 0), (I (3) 0), (r 402), (b true), (I (181) 0), (r 403), N, (r 404), (r 405), (r 406), (I (732) 0), (I (352) 0), (Sv "/claim/cut.py" 733)]
noncomputable def o408 (P : Params) : Obj := mkO (ty "function") none (fd 70 "growth_of" 3 [] N N N (Sv "cas.growth" 625) none (r 407) N 0) []
noncomputable def o409 (P : Params) : Obj := Tp []
noncomputable def o410 (P : Params) : Obj := mkO N none (.fields (ar [])) []
noncomputable def o411 (P : Params) : Obj := Tp [(Sv "t" 738), (Sv "name" 739), (Sv "told" 740)]
noncomputable def o412 (P : Params) : Obj := Tp []
noncomputable def o413 (P : Params) : Obj := mkO N none (fd 71 "growth_of_other" 0 [] N N N N none N N 0) []
noncomputable def o414 (P : Params) : Obj := Cd [(Sv "growth_of_other" 735), (Sv "growth_of_other" 736), (Sv "/claim/cut.py" 737), (I (370) 0), (I (2) 0), (I (0) 0), (I (0) 0), (I (3) 0), (r 409), (b true), (I (181) 0), (r 410), N, (r 411), (r 412), (r 413), (I (741) 0), (I (370) 0), (Sv "/claim/cut.py" 742)]
noncomputable def o415 (P : Params) : Obj := mkO (ty "function") none (fd 71 "growth_of_other" 3 [] N N N (Sv "cas.growth" 625) none (r 414) N 0) []
noncomputable def o416 (P : Params) : Obj := Tp []
noncomputable def o417 (P : Params) : Obj := mkO N none (.fields (ar [])) []
noncomputable def o418 (P : Params) : Obj := Tp [(Sv "told" 747), (Sv "above" 748), (Sv "below" 749), (Sv "order" 750), (Sv "number" 751)]
noncomputable def o419 (P : Params) : Obj := Tp []
noncomputable def o420 (P : Params) : Obj := mkO N none (fd 72 "far_limit" 0 [] N N N N none N N 0) []
noncomputable def o421 (P : Params) : Obj := Cd [(Sv "far_limit" 744), (Sv "far_limit" 745), (Sv "/claim/cut.py" 746), (I (385) 0), (I (1) 0), (I (0) 0), (I (0) 0), (I (3) 0), (r 416), (b true), (I (181) 0), (r 417), N, (r 418), (r 419), (r 420), (I (752) 0), (I (385) 0), (Sv "/claim/cut.py" 753)]
noncomputable def o422 (P : Params) : Obj := mkO (ty "function") none (fd 72 "far_limit" 3 [] N N N (Sv "cas.growth" 625) none (r 421) N 0) []
noncomputable def o423 (P : Params) : Obj := Tp [(I (1) 761), (I (5) 762), (I (7) 763), (I (11) 764), (I (19) 765), (I (35) 766), (I (67) 767)]
noncomputable def o424 (P : Params) : Obj := Tp []
noncomputable def o425 (P : Params) : Obj := mkO N none (.fields (ar [])) []
noncomputable def o426 (P : Params) : Obj := Tp [(Sv "told" 772), (Sv "side" 773), (Sv "low" 774), (Sv "rest" 775), (Sv "is_odd" 776), (Sv "is_up" 777)]
noncomputable def o427 (P : Params) : Obj := Tp []
noncomputable def o428 (P : Params) : Obj := mkO N none (fd 77 "from_begin" 0 [] N N N N none N N 0) []
noncomputable def o429 (P : Params) : Obj := Cd [(Sv "from_begin" 769), (Sv "from_begin" 770), (Sv "/claim/cut.py" 771), (I (402) 0), (I (2) 0), (I (0) 0), (I (0) 0), (I (3) 0), (r 424), (b true), (I (181) 0), (r 425), N, (r 426), (r 427), (r 428), (I (778) 0), (I (402) 0), (Sv "/claim/cut.py" 779)]
noncomputable def o430 (P : Params) : Obj := mkO (ty "function") none (fd 77 "from_begin" 3 [] N N N (Sv "cas.limits" 755) none (r 429) N 0) []
noncomputable def o431 (P : Params) : Obj := Tp []
noncomputable def o432 (P : Params) : Obj := mkO N none (.fields (ar [])) []
noncomputable def o433 (P : Params) : Obj := Tp [(Sv "t" 784), (Sv "letter" 785), (Sv "many" 786), (Sv "found" 787), (Sv "e" 788)]
noncomputable def o434 (P : Params) : Obj := Tp []
noncomputable def o435 (P : Params) : Obj := mkO N none (fd 78 "begun_series" 0 [] N N N N none N N 0) []
noncomputable def o436 (P : Params) : Obj := Cd [(Sv "begun_series" 781), (Sv "begun_series" 782), (Sv "/claim/cut.py" 783), (I (413) 0), (I (2) 0), (I (0) 0), (I (0) 0), (I (3) 0), (r 431), (b true), (I (181) 0), (r 432), N, (r 433), (r 434), (r 435), (I (789) 0), (I (413) 0), (Sv "/claim/cut.py" 790)]
noncomputable def o437 (P : Params) : Obj := mkO (ty "function") none (fd 78 "begun_series" 3 [] N N N (Sv "cas.limits" 755) none (r 436) N 0) []
noncomputable def o438 (P : Params) : Obj := Tp []
noncomputable def o439 (P : Params) : Obj := mkO N none (.fields (ar [])) []
noncomputable def o440 (P : Params) : Obj := Tp [(Sv "t" 795), (Sv "name" 796), (Sv "at" 797), (Sv "side" 798), (Sv "way" 799), (Sv "above" 800), (Sv "below" 801)]
noncomputable def o441 (P : Params) : Obj := Tp []
noncomputable def o442 (P : Params) : Obj := mkO N none (fd 79 "limit_near" 0 [] N N N N none N N 0) []
noncomputable def o443 (P : Params) : Obj := Cd [(Sv "limit_near" 792), (Sv "limit_near" 793), (Sv "/claim/cut.py" 794), (I (423) 0), (I (4) 0), (I (0) 0), (I (0) 0), (I (3) 0), (r 438), (b true), (I (181) 0), (r 439), N, (r 440), (r 441), (r 442), (I (802) 0), (I (423) 0), (Sv "/claim/cut.py" 803)]
noncomputable def o444 (P : Params) : Obj := mkO (ty "function") none (fd 79 "limit_near" 3 [] N N N (Sv "cas.limits" 755) none (r 443) N 0) []
noncomputable def o445 (P : Params) : Obj := Tp []
noncomputable def o446 (P : Params) : Obj := mkO N none (.fields (ar [])) []
noncomputable def o447 (P : Params) : Obj := mkO N none (fd 80 "mirrored" 0 [] N N N N none N N 0) []
noncomputable def o448 (P : Params) : Obj := Cd [(Sv "mirrored" 805), (Sv "mirrored" 806), (Sv "/claim/cut.py" 807), (I (429) 0), (I (2) 0), (I (0) 0), (I (0) 0), (I (3) 0), (r 445), (b true), (I (181) 0), (r 446), N, N, N, (r 447), (I (808) 0), (I (429) 0), (Sv "/claim/cut.py" 809)]
noncomputable def o449 (P : Params) : Obj := mkO (ty "function") none (fd 80 "mirrored" 3 [] N N N (Sv "cas.limits" 755) none (r 448) N 0) []
noncomputable def o450 (P : Params) : Obj := Tp []
noncomputable def o451 (P : Params) : Obj := mkO N none (.fields (ar [])) []
noncomputable def o452 (P : Params) : Obj := Tp [(Sv "t" 814), (Sv "name" 815), (Sv "is_above" 816), (Sv "e" 817), (Sv "first" 818)]
noncomputable def o453 (P : Params) : Obj := Tp []
noncomputable def o454 (P : Params) : Obj := mkO N none (fd 81 "limit_far" 0 [] N N N N none N N 0) []
noncomputable def o455 (P : Params) : Obj := Cd [(Sv "limit_far" 811), (Sv "limit_far" 812), (Sv "/claim/cut.py" 813), (I (439) 0), (I (3) 0), (I (0) 0), (I (0) 0), (I (3) 0), (r 450), (b true), (I (181) 0), (r 451), N, (r 452), (r 453), (r 454), (I (819) 0), (I (439) 0), (Sv "/claim/cut.py" 820)]
noncomputable def o456 (P : Params) : Obj := mkO (ty "function") none (fd 81 "limit_far" 3 [] N N N (Sv "cas.limits" 755) none (r 455) N 0) []
noncomputable def o457 (P : Params) : Obj := Tp []
noncomputable def o458 (P : Params) : Obj := mkO N none (.fields (ar [])) []
noncomputable def o459 (P : Params) : Obj := Tp [(Sv "t" 825), (Sv "name" 826), (Sv "at" 827), (Sv "side" 828)]
noncomputable def o460 (P : Params) : Obj := Tp []
noncomputable def o461 (P : Params) : Obj := mkO N none (fd 82 "limit" 0 [] N N N N none N N 0) []
noncomputable def o462 (P : Params) : Obj := Cd [(Sv "limit" 822), (Sv "limit" 823), (Sv "/claim/cut.py" 824), (I (447) 0), (I (4) 0), (I (0) 0), (I (0) 0), (I (3) 0), (r 457), (b true), (I (181) 0), (r 458), N, (r 459), (r 460), (r 461), (I (829) 0), (I (447) 0), (Sv "/claim/cut.py" 830)]
noncomputable def o463 (P : Params) : Obj := mkO (ty "function") none (fd 82 "limit" 3 [] N N N (Sv "cas.limits" 755) none (r 462) N 0) []
noncomputable def o464 (P : Params) : Obj := Tp [(Sv "sym" 834), (Sv "x" 835)]
noncomputable def o465 (P : Params) : Obj := Tp []
noncomputable def o466 (P : Params) : Obj := mkO N none (.fields (ar [])) []
noncomputable def o467 (P : Params) : Obj := Tp [(Sv "box" 840), (Sv "many" 841)]
noncomputable def o468 (P : Params) : Obj := Tp []
noncomputable def o469 (P : Params) : Obj := mkO N none (fd 85 "_law_take" 0 [] N N N N none N N 0) []
noncomputable def o470 (P : Params) : Obj := Cd [(Sv "_law_take" 837), (Sv "_law_take" 838), (Sv "/claim/cut.py" 839), (I (453) 0), (I (2) 0), (I (0) 0), (I (0) 0), (I (3) 0), (r 465), (b true), (I (181) 0), (r 466), N, (r 467), (r 468), (r 469), (I (842) 0), (I (453) 0), (Sv "/claim/cut.py" 843)]
noncomputable def o471 (P : Params) : Obj := mkO (ty "function") none (fd 85 "_law_take" 3 [] N N N (Sv "law_rh0037_01" 832) none (r 470) N 0) []
noncomputable def o472 (P : Params) : Obj := Tp []
noncomputable def o473 (P : Params) : Obj := mkO N none (.fields (ar [])) []
noncomputable def o474 (P : Params) : Obj := Tp [(Sv "base" 848), (Sv "many" 849)]
noncomputable def o475 (P : Params) : Obj := Tp []
noncomputable def o476 (P : Params) : Obj := mkO N none (fd 86 "_law_power" 0 [] N N N N none N N 0) []
noncomputable def o477 (P : Params) : Obj := Cd [(Sv "_law_power" 845), (Sv "_law_power" 846), (Sv "/claim/cut.py" 847), (I (458) 0), (I (2) 0), (I (0) 0), (I (0) 0), (I (3) 0), (r 472), (b true), (I (181) 0), (r 473), N, (r 474), (r 475), (r 476), (I (850) 0), (I (458) 0), (Sv "/claim/cut.py" 851)]
noncomputable def o478 (P : Params) : Obj := mkO (ty "function") none (fd 86 "_law_power" 3 [] N N N (Sv "law_rh0037_01" 832) none (r 477) N 0) []
noncomputable def o479 (P : Params) : Obj := Tp []
noncomputable def o480 (P : Params) : Obj := mkO N none (.fields (ar [])) []
noncomputable def o481 (P : Params) : Obj := Tp [(Sv "number" 856), (Sv "many" 857)]
noncomputable def o482 (P : Params) : Obj := Tp []
noncomputable def o483 (P : Params) : Obj := mkO N none (fd 87 "_law_part" 0 [] N N N N none N N 0) []
noncomputable def o484 (P : Params) : Obj := Cd [(Sv "_law_part" 853), (Sv "_law_part" 854), (Sv "/claim/cut.py" 855), (I (460) 0), (I (2) 0), (I (0) 0), (I (0) 0), (I (3) 0), (r 479), (b true), (I (181) 0), (r 480), N, (r 481), (r 482), (r 483), (I (858) 0), (I (460) 0), (Sv "/claim/cut.py" 859)]
noncomputable def o485 (P : Params) : Obj := mkO (ty "function") none (fd 87 "_law_part" 3 [] N N N (Sv "law_rh0037_01" 832) none (r 484) N 0) []
noncomputable def o486 (P : Params) : Obj := Tp []
noncomputable def o487 (P : Params) : Obj := mkO N none (.fields (ar [])) []
noncomputable def o488 (P : Params) : Obj := Tp [(Sv "term" 864), (Sv "side" 865), (Sv "wrong" 866)]
noncomputable def o489 (P : Params) : Obj := Tp []
noncomputable def o490 (P : Params) : Obj := mkO N none (fd 88 "_law_told" 0 [] N N N N none N N 0) []
noncomputable def o491 (P : Params) : Obj := Cd [(Sv "_law_told" 861), (Sv "_law_told" 862), (Sv "/claim/cut.py" 863), (I (462) 0), (I (2) 0), (I (0) 0), (I (0) 0), (I (3) 0), (r 486), (b true), (I (181) 0), (r 487), N, (r 488), (r 489), (r 490), (I (867) 0), (I (462) 0), (Sv "/claim/cut.py" 868)]
noncomputable def o492 (P : Params) : Obj := mkO (ty "function") none (fd 88 "_law_told" 3 [] N N N (Sv "law_rh0037_01" 832) none (r 491) N 0) []
noncomputable def o493 (P : Params) : Obj := Tp []
noncomputable def o494 (P : Params) : Obj := mkO N none (.fields (ar [])) []
noncomputable def o495 (P : Params) : Obj := Tp [(Sv "first" 873), (Sv "gap" 874), (Sv "side" 875), (Sv "up" 876)]
noncomputable def o496 (P : Params) : Obj := Tp []
noncomputable def o497 (P : Params) : Obj := mkO N none (fd 89 "_law_due" 0 [] N N N N none N N 0) []
noncomputable def o498 (P : Params) : Obj := Cd [(Sv "_law_due" 870), (Sv "_law_due" 871), (Sv "/claim/cut.py" 872), (I (467) 0), (I (3) 0), (I (0) 0), (I (0) 0), (I (3) 0), (r 493), (b true), (I (181) 0), (r 494), N, (r 495), (r 496), (r 497), (I (877) 0), (I (467) 0), (Sv "/claim/cut.py" 878)]
noncomputable def o499 (P : Params) : Obj := mkO (ty "function") none (fd 89 "_law_due" 3 [] N N N (Sv "law_rh0037_01" 832) none (r 498) N 0) []
noncomputable def o500 (P : Params) : Obj := Tp []
noncomputable def o501 (P : Params) : Obj := mkO N none (.fields (ar [])) []
noncomputable def o502 (P : Params) : Obj := Tp [(Sv "box" 883), (Sv "name" 884), (Sv "far" 885), (Sv "side" 886), (Sv "first" 887), (Sv "less" 888), (Sv "root" 889), (Sv "below" 890), (Sv "told" 891), (Sv "turned" 892)]
noncomputable def o503 (P : Params) : Obj := Tp []
noncomputable def o504 (P : Params) : Obj := mkO N none (fd 90 "_law_root_right" 0 [] N N N N none N N 0) []
noncomputable def o505 (P : Params) : Obj := Cd [(Sv "_law_root_right" 880), (Sv "_law_root_right" 881), (Sv "/claim/cut.py" 882), (I (474) 0), (I (4) 0), (I (0) 0), (I (0) 0), (I (3) 0), (r 500), (b true), (I (181) 0), (r 501), N, (r 502), (r 503), (r 504), (I (893) 0), (I (474) 0), (Sv "/claim/cut.py" 894)]
noncomputable def o506 (P : Params) : Obj := mkO (ty "function") none (fd 90 "_law_root_right" 3 [] N N N (Sv "law_rh0037_01" 832) none (r 505) N 0) []
noncomputable def o507 (P : Params) : Obj := Tp []
noncomputable def o508 (P : Params) : Obj := mkO N none (.fields (ar [])) []
noncomputable def o509 (P : Params) : Obj := Tp [(Sv "box" 899), (Sv "name" 900), (Sv "far" 901), (Sv "side" 902), (Sv "many" 903), (Sv "number" 904), (Sv "call" 905)]
noncomputable def o510 (P : Params) : Obj := Tp []
noncomputable def o511 (P : Params) : Obj := mkO N none (fd 91 "_law_pole_right" 0 [] N N N N none N N 0) []
noncomputable def o512 (P : Params) : Obj := Cd [(Sv "_law_pole_right" 896), (Sv "_law_pole_right" 897), (Sv "/claim/cut.py" 898), (I (481) 0), (I (4) 0), (I (0) 0), (I (0) 0), (I (3) 0), (r 507), (b true), (I (181) 0), (r 508), N, (r 509), (r 510), (r 511), (I (906) 0), (I (481) 0), (Sv "/claim/cut.py" 907)]
noncomputable def o513 (P : Params) : Obj := mkO (ty "function") none (fd 91 "_law_pole_right" 3 [] N N N (Sv "law_rh0037_01" 832) none (r 512) N 0) []
noncomputable def o514 (P : Params) : Obj := Tp []
noncomputable def o515 (P : Params) : Obj := mkO N none (.fields (ar [])) []
noncomputable def o516 (P : Params) : Obj := Tp [(Sv "box" 912), (Sv "far" 913), (Sv "side" 914), (Sv "many" 915), (Sv "a" 916), (Sv "b" 917), (Sv "c" 918), (Sv "above" 919), (Sv "below" 920), (Sv "gap" 921), (Sv "told" 922)]
noncomputable def o517 (P : Params) : Obj := Tp []
noncomputable def o518 (P : Params) : Obj := mkO N none (fd 92 "_law_quotient_right" 0 [] N N N N none N N 0) []
noncomputable def o519 (P : Params) : Obj := Cd [(Sv "_law_quotient_right" 909), (Sv "_law_quotient_right" 910), (Sv "/claim/cut.py" 911), (I (487) 0), (I (3) 0), (I (0) 0), (I (0) 0), (I (3) 0), (r 514), (b true), (I (181) 0), (r 515), N, (r 516), (r 517), (r 518), (I (923) 0), (I (487) 0), (Sv "/claim/cut.py" 924)]
noncomputable def o520 (P : Params) : Obj := mkO (ty "function") none (fd 92 "_law_quotient_right" 3 [] N N N (Sv "law_rh0037_01" 832) none (r 519) N 0) []
noncomputable def o521 (P : Params) : Obj := Tp []
noncomputable def o522 (P : Params) : Obj := mkO N none (.fields (ar [])) []
noncomputable def o523 (P : Params) : Obj := mkO N none (fd 93 "_law_beginning_right" 0 [] N N N N none N N 0) []
noncomputable def o524 (P : Params) : Obj := Cd [(Sv "_law_beginning_right" 926), (Sv "_law_beginning_right" 927), (Sv "/claim/cut.py" 928), (I (495) 0), (I (2) 0), (I (0) 0), (I (0) 0), (I (3) 0), (r 521), (b true), (I (181) 0), (r 522), N, N, N, (r 523), (I (929) 0), (I (495) 0), (Sv "/claim/cut.py" 930)]
noncomputable def o525 (P : Params) : Obj := mkO (ty "function") none (fd 93 "_law_beginning_right" 3 [] N N N (Sv "law_rh0037_01" 832) none (r 524) N 0) []
noncomputable def o526 (P : Params) : Obj := Tp []
noncomputable def o527 (P : Params) : Obj := mkO N none (.fields (ar [])) []
noncomputable def o528 (P : Params) : Obj := Tp [(Sv "script" 935), (Sv "box" 936), (Sv "form" 937), (Sv "name" 938), (Sv "far" 939), (Sv "side" 940)]
noncomputable def o529 (P : Params) : Obj := Tp []
noncomputable def o530 (P : Params) : Obj := mkO N none (fd 94 "law" 0 [] N N N N none N N 0) []
noncomputable def o531 (P : Params) : Obj := Cd [(Sv "law" 932), (Sv "law" 933), (Sv "/claim/cut.py" 934), (I (500) 0), (I (1) 0), (I (0) 0), (I (0) 0), (I (3) 0), (r 526), (b true), (I (181) 0), (r 527), N, (r 528), (r 529), (r 530), (I (941) 0), (I (500) 0), (Sv "/claim/cut.py" 942)]
noncomputable def o532 (P : Params) : Obj := mkO (ty "function") none (fd 94 "law" 3 [] N N N (Sv "law_rh0037_01" 832) none (r 531) N 0) []
noncomputable def o2_pre (P : Params) : Obj := mkO N none (.dict (ar []) 0) []
noncomputable def o3_pre (P : Params) : Obj := mkO (ty "dict") none (.dict (ar [E P "__name__" 165 (Sv "__main__" 164), E P "__doc__" 166 N, E P "__package__" 167 N, E P "__loader__" 168 (bi "__main__.__loader__#opaque"), E P "__spec__" 169 N, E P "__annotations__" 170 (r 6), E P "__builtins__" 171 (r 4), E P "__file__" 173 (Sv "/claim/cut.py" 172), E P "__cached__" 174 N]) 9) []
noncomputable def o12_pre (P : Params) : Obj := mkO N none (.fields (ar [])) []
noncomputable def o3_p9 (P : Params) : Obj := mkO (ty "dict") none (.dict (ar [E P "__name__" 165 (Sv "cas.rats" 251), E P "__doc__" 166 N, E P "__package__" 167 N, E P "__loader__" 168 (bi "__main__.__loader__#opaque"), E P "__spec__" 169 N, E P "__annotations__" 170 (r 6), E P "__builtins__" 171 (r 4), E P "__file__" 173 (Sv "/claim/cut.py" 172), E P "__cached__" 174 N, E P "CasFail" 219 (r 31), E P "gcd" 229 (r 41), E P "bits_of" 239 (r 48), E P "root_of" 250 (r 55), E P "R0" 255 (r 56), E P "R1" 258 (r 57), E P "MOST_BITS" 260 (I (200000) 259)]) 16) []
noncomputable def o12_p9 (P : Params) : Obj := mkO N none (.fields (ar [(I (2) 0), (I (0) 0), (r 20), (I (9) 0), (I (0) 0), (r 40), (I (14) 0), (I (0) 0), (r 47), (I (21) 0), (I (0) 0), (r 54)])) []
noncomputable def o3_p23 (P : Params) : Obj := mkO (ty "dict") none (.dict (ar [E P "__name__" 165 (Sv "cas.series" 342), E P "__doc__" 166 N, E P "__package__" 167 N, E P "__loader__" 168 (bi "__main__.__loader__#opaque"), E P "__spec__" 169 N, E P "__annotations__" 170 (r 6), E P "__builtins__" 171 (r 4), E P "__file__" 173 (Sv "/claim/cut.py" 172), E P "__cached__" 174 N, E P "CasFail" 219 (r 31), E P "gcd" 229 (r 41), E P "bits_of" 239 (r 48), E P "root_of" 250 (r 55), E P "R0" 255 (r 56), E P "R1" 258 (r 57), E P "MOST_BITS" 260 (I (200000) 259), E P "rat" 269 (r 64), E P "radd" 277 (r 71), E P "rsub" 285 (r 78), E P "rmul" 293 (r 85), E P "rdiv" 301 (r 92), E P "rneg" 308 (r 99), E P "rinv" 315 (r 106), E P "rpower" 324 (r 113), E P "is_vast" 332 (r 120), E P "rcompare" 341 (r 127), E P "cut" 351 (r 134), E P "let" 358 (r 141), E P "sadd" 364 (r 146)]) 29) []
noncomputable def o12_p23 (P : Params) : Obj := mkO N none (.fields (ar [(I (2) 0), (I (0) 0), (r 20), (I (9) 0), (I (0) 0), (r 40), (I (14) 0), (I (0) 0), (r 47), (I (21) 0), (I (0) 0), (r 54), (I (38) 0), (I (0) 0), (r 63), (I (43) 0), (I (0) 0), (r 70), (I (45) 0), (I (0) 0), (r 77), (I (47) 0), (I (0) 0), (r 84), (I (49) 0), (I (0) 0), (r 91), (I (51) 0), (I (0) 0), (r 98), (I (53) 0), (I (0) 0), (r 105), (I (55) 0), (I (0) 0), (r 112), (I (62) 0), (I (0) 0), (r 119), (I (65) 0), (I (0) 0), (r 126), (I (69) 0), (I (0) 0), (r 133), (I (71) 0), (I (0) 0), (r 140), (I (75) 0), (I (0) 0), (r 145)])) []
noncomputable def o3_p36 (P : Params) : Obj := mkO (ty "dict") none (.dict (ar [E P "__name__" 165 (Sv "cas.series" 342), E P "__doc__" 166 N, E P "__package__" 167 N, E P "__loader__" 168 (bi "__main__.__loader__#opaque"), E P "__spec__" 169 N, E P "__annotations__" 170 (r 6), E P "__builtins__" 171 (r 4), E P "__file__" 173 (Sv "/claim/cut.py" 172), E P "__cached__" 174 N, E P "CasFail" 219 (r 31), E P "gcd" 229 (r 41), E P "bits_of" 239 (r 48), E P "root_of" 250 (r 55), E P "R0" 255 (r 56), E P "R1" 258 (r 57), E P "MOST_BITS" 260 (I (200000) 259), E P "rat" 269 (r 64), E P "radd" 277 (r 71), E P "rsub" 285 (r 78), E P "rmul" 293 (r 85), E P "rdiv" 301 (r 92), E P "rneg" 308 (r 99), E P "rinv" 315 (r 106), E P "rpower" 324 (r 113), E P "is_vast" 332 (r 120), E P "rcompare" 341 (r 127), E P "cut" 351 (r 134), E P "let" 358 (r 141), E P "sadd" 364 (r 146), E P "sscale" 370 (r 151), E P "mixed" 381 (r 158), E P "smul" 387 (r 163), E P "sinverse" 398 (r 170), E P "sderive" 404 (r 175), E P "sintegrate" 410 (r 180), E P "need_begin" 418 (r 187), E P "sexp" 429 (r 194), E P "slog" 436 (r 201), E P "ssin_cos" 450 (r 208), E P "ssin" 457 (r 215), E P "scos" 464 (r 222), E P "satan" 472 (r 229)]) 42) []
noncomputable def o12_p36 (P : Params) : Obj := mkO N none (.fields (ar [(I (2) 0), (I (0) 0), (r 20), (I (9) 0), (I (0) 0), (r 40), (I (14) 0), (I (0) 0), (r 47), (I (21) 0), (I (0) 0), (r 54), (I (38) 0), (I (0) 0), (r 63), (I (43) 0), (I (0) 0), (r 70), (I (45) 0), (I (0) 0), (r 77), (I (47) 0), (I (0) 0), (r 84), (I (49) 0), (I (0) 0), (r 91), (I (51) 0), (I (0) 0), (r 98), (I (53) 0), (I (0) 0), (r 105), (I (55) 0), (I (0) 0), (r 112), (I (62) 0), (I (0) 0), (r 119), (I (65) 0), (I (0) 0), (r 126), (I (69) 0), (I (0) 0), (r 133), (I (71) 0), (I (0) 0), (r 140), (I (75) 0), (I (0) 0), (r 145), (I (77) 0), (I (0) 0), (r 150), (I (79) 0), (I (0) 0), (r 157), (I (85) 0), (I (0) 0), (r 162), (I (87) 0), (I (0) 0), (r 169), (I (97) 0), (I (0) 0), (r 174), (I (99) 0), (I (0) 0), (r 179), (I (101) 0), (I (0) 0), (r 186), (I (104) 0), (I (0) 0), (r 193), (I (113) 0), (I (0) 0), (r 200), (I (118) 0), (I (0) 0), (r 207), (I (130) 0), (I (0) 0), (r 214), (I (132) 0), (I (0) 0), (r 221), (I (134) 0), (I (0) 0), (r 228)])) []
noncomputable def o3_p50 (P : Params) : Obj := mkO (ty "dict") none (.dict (ar [E P "__name__" 165 (Sv "cas.series_of" 552), E P "__doc__" 166 N, E P "__package__" 167 N, E P "__loader__" 168 (bi "__main__.__loader__#opaque"), E P "__spec__" 169 N, E P "__annotations__" 170 (r 6), E P "__builtins__" 171 (r 4), E P "__file__" 173 (Sv "/claim/cut.py" 172), E P "__cached__" 174 N, E P "CasFail" 219 (r 31), E P "gcd" 229 (r 41), E P "bits_of" 239 (r 48), E P "root_of" 250 (r 55), E P "R0" 255 (r 56), E P "R1" 258 (r 57), E P "MOST_BITS" 260 (I (200000) 259), E P "rat" 269 (r 64), E P "radd" 277 (r 71), E P "rsub" 285 (r 78), E P "rmul" 293 (r 85), E P "rdiv" 301 (r 92), E P "rneg" 308 (r 99), E P "rinv" 315 (r 106), E P "rpower" 324 (r 113), E P "is_vast" 332 (r 120), E P "rcompare" 341 (r 127), E P "cut" 351 (r 134), E P "let" 358 (r 141), E P "sadd" 364 (r 146), E P "sscale" 370 (r 151), E P "mixed" 381 (r 158), E P "smul" 387 (r 163), E P "sinverse" 398 (r 170), E P "sderive" 404 (r 175), E P "sintegrate" 410 (r 180), E P "need_begin" 418 (r 187), E P "sexp" 429 (r 194), E P "slog" 436 (r 201), E P "ssin_cos" 450 (r 208), E P "ssin" 457 (r 215), E P "scos" 464 (r 222), E P "satan" 472 (r 229), E P "spower" 485 (r 236), E P "swhole_power" 496 (r 243), E P "MOST_SQUARED" 500 (I (1000) 499), E P "lplain" 508 (r 250), E P "ladd" 514 (r 255), E P "lmul" 522 (r 262), E P "ltrim" 531 (r 269), E P "linverse" 540 (r 276), E P "lpower" 551 (r 283), E P "exact_root" 563 (r 290), E P "from_zero" 573 (r 297), E P "of_call" 585 (r 304)]) 54) []
noncomputable def o12_p50 (P : Params) : Obj := mkO N none (.fields (ar [(I (2) 0), (I (0) 0), (r 20), (I (9) 0), (I (0) 0), (r 40), (I (14) 0), (I (0) 0), (r 47), (I (21) 0), (I (0) 0), (r 54), (I (38) 0), (I (0) 0), (r 63), (I (43) 0), (I (0) 0), (r 70), (I (45) 0), (I (0) 0), (r 77), (I (47) 0), (I (0) 0), (r 84), (I (49) 0), (I (0) 0), (r 91), (I (51) 0), (I (0) 0), (r 98), (I (53) 0), (I (0) 0), (r 105), (I (55) 0), (I (0) 0), (r 112), (I (62) 0), (I (0) 0), (r 119), (I (65) 0), (I (0) 0), (r 126), (I (69) 0), (I (0) 0), (r 133), (I (71) 0), (I (0) 0), (r 140), (I (75) 0), (I (0) 0), (r 145), (I (77) 0), (I (0) 0), (r 150), (I (79) 0), (I (0) 0), (r 157), (I (85) 0), (I (0) 0), (r 162), (I (87) 0), (I (0) 0), (r 169), (I (97) 0), (I (0) 0), (r 174), (I (99) 0), (I (0) 0), (r 179), (I (101) 0), (I (0) 0), (r 186), (I (104) 0), (I (0) 0), (r 193), (I (113) 0), (I (0) 0), (r 200), (I (118) 0), (I (0) 0), (r 207), (I (130) 0), (I (0) 0), (r 214), (I (132) 0), (I (0) 0), (r 221), (I (134) 0), (I (0) 0), (r 228), (I (141) 0), (I (0) 0), (r 235), (I (151) 0), (I (0) 0), (r 242), (I (162) 0), (I (0) 0), (r 249), (I (164) 0), (I (0) 0), (r 254), (I (169) 0), (I (0) 0), (r 261), (I (171) 0), (I (0) 0), (r 268), (I (176) 0), (I (0) 0), (r 275), (I (181) 0), (I (0) 0), (r 282), (I (192) 0), (I (0) 0), (r 289), (I (195) 0), (I (0) 0), (r 296), (I (202) 0), (I (0) 0), (r 303)])) []
noncomputable def o3_p65 (P : Params) : Obj := mkO (ty "dict") none (.dict (ar [E P "__name__" 165 (Sv "cas.growth" 625), E P "__doc__" 166 N, E P "__package__" 167 N, E P "__loader__" 168 (bi "__main__.__loader__#opaque"), E P "__spec__" 169 N, E P "__annotations__" 170 (r 6), E P "__builtins__" 171 (r 4), E P "__file__" 173 (Sv "/claim/cut.py" 172), E P "__cached__" 174 N, E P "CasFail" 219 (r 31), E P "gcd" 229 (r 41), E P "bits_of" 239 (r 48), E P "root_of" 250 (r 55), E P "R0" 255 (r 56), E P "R1" 258 (r 57), E P "MOST_BITS" 260 (I (200000) 259), E P "rat" 269 (r 64), E P "radd" 277 (r 71), E P "rsub" 285 (r 78), E P "rmul" 293 (r 85), E P "rdiv" 301 (r 92), E P "rneg" 308 (r 99), E P "rinv" 315 (r 106), E P "rpower" 324 (r 113), E P "is_vast" 332 (r 120), E P "rcompare" 341 (r 127), E P "cut" 351 (r 134), E P "let" 358 (r 141), E P "sadd" 364 (r 146), E P "sscale" 370 (r 151), E P "mixed" 381 (r 158), E P "smul" 387 (r 163), E P "sinverse" 398 (r 170), E P "sderive" 404 (r 175), E P "sintegrate" 410 (r 180), E P "need_begin" 418 (r 187), E P "sexp" 429 (r 194), E P "slog" 436 (r 201), E P "ssin_cos" 450 (r 208), E P "ssin" 457 (r 215), E P "scos" 464 (r 222), E P "satan" 472 (r 229), E P "spower" 485 (r 236), E P "swhole_power" 496 (r 243), E P "MOST_SQUARED" 500 (I (1000) 499), E P "lplain" 508 (r 250), E P "ladd" 514 (r 255), E P "lmul" 522 (r 262), E P "ltrim" 531 (r 269), E P "linverse" 540 (r 276), E P "lpower" 551 (r 283), E P "exact_root" 563 (r 290), E P "from_zero" 573 (r 297), E P "of_call" 585 (r 304), E P "of_root" 597 (r 311), E P "of_power" 608 (r 318), E P "of_sum" 618 (r 325), E P "of_term" 624 (r 330), E P "STILL" 628 (r 332), E P "MOST_TURNS" 630 (I (200) 629), E P "MOST_KINDS" 632 (I (1000) 631), E P "ginsert" 642 (r 339), E P "gadd" 652 (r 346), E P "poly_sum" 658 (r 351), E P "kind_product" 666 (r 358), E P "gmul" 677 (r 365), E P "kind_compare" 683 (r 370), E P "fastest" 692 (r 377)]) 68) []
noncomputable def o12_p65 (P : Params) : Obj := mkO N none (.fields (ar [(I (2) 0), (I (0) 0), (r 20), (I (9) 0), (I (0) 0), (r 40), (I (14) 0), (I (0) 0), (r 47), (I (21) 0), (I (0) 0), (r 54), (I (38) 0), (I (0) 0), (r 63), (I (43) 0), (I (0) 0), (r 70), (I (45) 0), (I (0) 0), (r 77), (I (47) 0), (I (0) 0), (r 84), (I (49) 0), (I (0) 0), (r 91), (I (51) 0), (I (0) 0), (r 98), (I (53) 0), (I (0) 0), (r 105), (I (55) 0), (I (0) 0), (r 112), (I (62) 0), (I (0) 0), (r 119), (I (65) 0), (I (0) 0), (r 126), (I (69) 0), (I (0) 0), (r 133), (I (71) 0), (I (0) 0), (r 140), (I (75) 0), (I (0) 0), (r 145), (I (77) 0), (I (0) 0), (r 150), (I (79) 0), (I (0) 0), (r 157), (I (85) 0), (I (0) 0), (r 162), (I (87) 0), (I (0) 0), (r 169), (I (97) 0), (I (0) 0), (r 174), (I (99) 0), (I (0) 0), (r 179), (I (101) 0), (I (0) 0), (r 186), (I (104) 0), (I (0) 0), (r 193), (I (113) 0), (I (0) 0), (r 200), (I (118) 0), (I (0) 0), (r 207), (I (130) 0), (I (0) 0), (r 214), (I (132) 0), (I (0) 0), (r 221), (I (134) 0), (I (0) 0), (r 228), (I (141) 0), (I (0) 0), (r 235), (I (151) 0), (I (0) 0), (r 242), (I (162) 0), (I (0) 0), (r 249), (I (164) 0), (I (0) 0), (r 254), (I (169) 0), (I (0) 0), (r 261), (I (171) 0), (I (0) 0), (r 268), (I (176) 0), (I (0) 0), (r 275), (I (181) 0), (I (0) 0), (r 282), (I (192) 0), (I (0) 0), (r 289), (I (195) 0), (I (0) 0), (r 296), (I (202) 0), (I (0) 0), (r 303), (I (220) 0), (I (0) 0), (r 310), (I (233) 0), (I (0) 0), (r 317), (I (242) 0), (I (0) 0), (r 324), (I (247) 0), (I (0) 0), (r 329), (I (273) 0), (I (0) 0), (r 338), (I (279) 0), (I (0) 0), (r 345), (I (284) 0), (I (0) 0), (r 350), (I (289) 0), (I (0) 0), (r 357), (I (291) 0), (I (0) 0), (r 364), (I (299) 0), (I (0) 0), (r 369), (I (305) 0), (I (0) 0), (r 376)])) []
noncomputable def o3_p80 (P : Params) : Obj := mkO (ty "dict") none (.dict (ar [E P "__name__" 165 (Sv "cas.limits" 755), E P "__doc__" 166 N, E P "__package__" 167 N, E P "__loader__" 168 (bi "__main__.__loader__#opaque"), E P "__spec__" 169 N, E P "__annotations__" 170 (r 6), E P "__builtins__" 171 (r 4), E P "__file__" 173 (Sv "/claim/cut.py" 172), E P "__cached__" 174 N, E P "CasFail" 219 (r 31), E P "gcd" 229 (r 41), E P "bits_of" 239 (r 48), E P "root_of" 250 (r 55), E P "R0" 255 (r 56), E P "R1" 258 (r 57), E P "MOST_BITS" 260 (I (200000) 259), E P "rat" 269 (r 64), E P "radd" 277 (r 71), E P "rsub" 285 (r 78), E P "rmul" 293 (r 85), E P "rdiv" 301 (r 92), E P "rneg" 308 (r 99), E P "rinv" 315 (r 106), E P "rpower" 324 (r 113), E P "is_vast" 332 (r 120), E P "rcompare" 341 (r 127), E P "cut" 351 (r 134), E P "let" 358 (r 141), E P "sadd" 364 (r 146), E P "sscale" 370 (r 151), E P "mixed" 381 (r 158), E P "smul" 387 (r 163), E P "sinverse" 398 (r 170), E P "sderive" 404 (r 175), E P "sintegrate" 410 (r 180), E P "need_begin" 418 (r 187), E P "sexp" 429 (r 194), E P "slog" 436 (r 201), E P "ssin_cos" 450 (r 208), E P "ssin" 457 (r 215), E P "scos" 464 (r 222), E P "satan" 472 (r 229), E P "spower" 485 (r 236), E P "swhole_power" 496 (r 243), E P "MOST_SQUARED" 500 (I (1000) 499), E P "lplain" 508 (r 250), E P "ladd" 514 (r 255), E P "lmul" 522 (r 262), E P "ltrim" 531 (r 269), E P "linverse" 540 (r 276), E P "lpower" 551 (r 283), E P "exact_root" 563 (r 290), E P "from_zero" 573 (r 297), E P "of_call" 585 (r 304), E P "of_root" 597 (r 311), E P "of_power" 608 (r 318), E P "of_sum" 618 (r 325), E P "of_term" 624 (r 330), E P "STILL" 628 (r 332), E P "MOST_TURNS" 630 (I (200) 629), E P "MOST_KINDS" 632 (I (1000) 631), E P "ginsert" 642 (r 339), E P "gadd" 652 (r 346), E P "poly_sum" 658 (r 351), E P "kind_product" 666 (r 358), E P "gmul" 677 (r 365), E P "kind_compare" 683 (r 370), E P "fastest" 692 (r 377), E P "exponent_of" 701 (r 384), E P "gpower" 707 (r 389), E P "gratio_power" 717 (r 396), E P "groot" 723 (r 401), E P "growth_of" 734 (r 408), E P "growth_of_other" 743 (r 415), E P "far_limit" 754 (r 422), E P "FAR" 758 (Sv "inf" 757), E P "LOW" 760 (Sv "-inf" 759), E P "TRIES" 768 (r 423), E P "from_begin" 780 (r 430), E P "begun_series" 791 (r 437), E P "limit_near" 804 (r 444), E P "mirrored" 810 (r 449)]) 82) []
noncomputable def o12_p80 (P : Params) : Obj := mkO N none (.fields (ar [(I (2) 0), (I (0) 0), (r 20), (I (9) 0), (I (0) 0), (r 40), (I (14) 0), (I (0) 0), (r 47), (I (21) 0), (I (0) 0), (r 54), (I (38) 0), (I (0) 0), (r 63), (I (43) 0), (I (0) 0), (r 70), (I (45) 0), (I (0) 0), (r 77), (I (47) 0), (I (0) 0), (r 84), (I (49) 0), (I (0) 0), (r 91), (I (51) 0), (I (0) 0), (r 98), (I (53) 0), (I (0) 0), (r 105), (I (55) 0), (I (0) 0), (r 112), (I (62) 0), (I (0) 0), (r 119), (I (65) 0), (I (0) 0), (r 126), (I (69) 0), (I (0) 0), (r 133), (I (71) 0), (I (0) 0), (r 140), (I (75) 0), (I (0) 0), (r 145), (I (77) 0), (I (0) 0), (r 150), (I (79) 0), (I (0) 0), (r 157), (I (85) 0), (I (0) 0), (r 162), (I (87) 0), (I (0) 0), (r 169), (I (97) 0), (I (0) 0), (r 174), (I (99) 0), (I (0) 0), (r 179), (I (101) 0), (I (0) 0), (r 186), (I (104) 0), (I (0) 0), (r 193), (I (113) 0), (I (0) 0), (r 200), (I (118) 0), (I (0) 0), (r 207), (I (130) 0), (I (0) 0), (r 214), (I (132) 0), (I (0) 0), (r 221), (I (134) 0), (I (0) 0), (r 228), (I (141) 0), (I (0) 0), (r 235), (I (151) 0), (I (0) 0), (r 242), (I (162) 0), (I (0) 0), (r 249), (I (164) 0), (I (0) 0), (r 254), (I (169) 0), (I (0) 0), (r 261), (I (171) 0), (I (0) 0), (r 268), (I (176) 0), (I (0) 0), (r 275), (I (181) 0), (I (0) 0), (r 282), (I (192) 0), (I (0) 0), (r 289), (I (195) 0), (I (0) 0), (r 296), (I (202) 0), (I (0) 0), (r 303), (I (220) 0), (I (0) 0), (r 310), (I (233) 0), (I (0) 0), (r 317), (I (242) 0), (I (0) 0), (r 324), (I (247) 0), (I (0) 0), (r 329), (I (273) 0), (I (0) 0), (r 338), (I (279) 0), (I (0) 0), (r 345), (I (284) 0), (I (0) 0), (r 350), (I (289) 0), (I (0) 0), (r 357), (I (291) 0), (I (0) 0), (r 364), (I (299) 0), (I (0) 0), (r 369), (I (305) 0), (I (0) 0), (r 376), (I (311) 0), (I (0) 0), (r 383), (I (318) 0), (I (0) 0), (r 388), (I (336) 0), (I (0) 0), (r 395), (I (341) 0), (I (0) 0), (r 400), (I (352) 0), (I (0) 0), (r 407), (I (370) 0), (I (0) 0), (r 414), (I (385) 0), (I (0) 0), (r 421), (I (402) 0), (I (0) 0), (r 429), (I (413) 0), (I (0) 0), (r 436), (I (423) 0), (I (0) 0), (r 443), (I (429) 0), (I (0) 0), (r 448)])) []
noncomputable def o3_p93 (P : Params) : Obj := mkO (ty "dict") none (.dict (ar [E P "__name__" 165 (Sv "law_rh0037_01" 832), E P "__doc__" 166 N, E P "__package__" 167 N, E P "__loader__" 168 (bi "__main__.__loader__#opaque"), E P "__spec__" 169 N, E P "__annotations__" 170 (r 6), E P "__builtins__" 171 (r 4), E P "__file__" 173 (Sv "/claim/cut.py" 172), E P "__cached__" 174 N, E P "CasFail" 219 (r 31), E P "gcd" 229 (r 41), E P "bits_of" 239 (r 48), E P "root_of" 250 (r 55), E P "R0" 255 (r 56), E P "R1" 258 (r 57), E P "MOST_BITS" 260 (I (200000) 259), E P "rat" 269 (r 64), E P "radd" 277 (r 71), E P "rsub" 285 (r 78), E P "rmul" 293 (r 85), E P "rdiv" 301 (r 92), E P "rneg" 308 (r 99), E P "rinv" 315 (r 106), E P "rpower" 324 (r 113), E P "is_vast" 332 (r 120), E P "rcompare" 341 (r 127), E P "cut" 351 (r 134), E P "let" 358 (r 141), E P "sadd" 364 (r 146), E P "sscale" 370 (r 151), E P "mixed" 381 (r 158), E P "smul" 387 (r 163), E P "sinverse" 398 (r 170), E P "sderive" 404 (r 175), E P "sintegrate" 410 (r 180), E P "need_begin" 418 (r 187), E P "sexp" 429 (r 194), E P "slog" 436 (r 201), E P "ssin_cos" 450 (r 208), E P "ssin" 457 (r 215), E P "scos" 464 (r 222), E P "satan" 472 (r 229), E P "spower" 485 (r 236), E P "swhole_power" 496 (r 243), E P "MOST_SQUARED" 500 (I (1000) 499), E P "lplain" 508 (r 250), E P "ladd" 514 (r 255), E P "lmul" 522 (r 262), E P "ltrim" 531 (r 269), E P "linverse" 540 (r 276), E P "lpower" 551 (r 283), E P "exact_root" 563 (r 290), E P "from_zero" 573 (r 297), E P "of_call" 585 (r 304), E P "of_root" 597 (r 311), E P "of_power" 608 (r 318), E P "of_sum" 618 (r 325), E P "of_term" 624 (r 330), E P "STILL" 628 (r 332), E P "MOST_TURNS" 630 (I (200) 629), E P "MOST_KINDS" 632 (I (1000) 631), E P "ginsert" 642 (r 339), E P "gadd" 652 (r 346), E P "poly_sum" 658 (r 351), E P "kind_product" 666 (r 358), E P "gmul" 677 (r 365), E P "kind_compare" 683 (r 370), E P "fastest" 692 (r 377), E P "exponent_of" 701 (r 384), E P "gpower" 707 (r 389), E P "gratio_power" 717 (r 396), E P "groot" 723 (r 401), E P "growth_of" 734 (r 408), E P "growth_of_other" 743 (r 415), E P "far_limit" 754 (r 422), E P "FAR" 758 (Sv "inf" 757), E P "LOW" 760 (Sv "-inf" 759), E P "TRIES" 768 (r 423), E P "from_begin" 780 (r 430), E P "begun_series" 791 (r 437), E P "limit_near" 804 (r 444), E P "mirrored" 810 (r 449), E P "limit_far" 821 (r 456), E P "limit" 831 (r 463), E P "_law_x" 836 (r 464), E P "_law_take" 844 (r 471), E P "_law_power" 852 (r 478), E P "_law_part" 860 (r 485), E P "_law_told" 869 (r 492), E P "_law_due" 879 (r 499), E P "_law_root_right" 895 (r 506), E P "_law_pole_right" 908 (r 513), E P "_law_quotient_right" 925 (r 520), E P "_law_beginning_right" 931 (r 525)]) 94) []
noncomputable def o12_p93 (P : Params) : Obj := mkO N none (.fields (ar [(I (2) 0), (I (0) 0), (r 20), (I (9) 0), (I (0) 0), (r 40), (I (14) 0), (I (0) 0), (r 47), (I (21) 0), (I (0) 0), (r 54), (I (38) 0), (I (0) 0), (r 63), (I (43) 0), (I (0) 0), (r 70), (I (45) 0), (I (0) 0), (r 77), (I (47) 0), (I (0) 0), (r 84), (I (49) 0), (I (0) 0), (r 91), (I (51) 0), (I (0) 0), (r 98), (I (53) 0), (I (0) 0), (r 105), (I (55) 0), (I (0) 0), (r 112), (I (62) 0), (I (0) 0), (r 119), (I (65) 0), (I (0) 0), (r 126), (I (69) 0), (I (0) 0), (r 133), (I (71) 0), (I (0) 0), (r 140), (I (75) 0), (I (0) 0), (r 145), (I (77) 0), (I (0) 0), (r 150), (I (79) 0), (I (0) 0), (r 157), (I (85) 0), (I (0) 0), (r 162), (I (87) 0), (I (0) 0), (r 169), (I (97) 0), (I (0) 0), (r 174), (I (99) 0), (I (0) 0), (r 179), (I (101) 0), (I (0) 0), (r 186), (I (104) 0), (I (0) 0), (r 193), (I (113) 0), (I (0) 0), (r 200), (I (118) 0), (I (0) 0), (r 207), (I (130) 0), (I (0) 0), (r 214), (I (132) 0), (I (0) 0), (r 221), (I (134) 0), (I (0) 0), (r 228), (I (141) 0), (I (0) 0), (r 235), (I (151) 0), (I (0) 0), (r 242), (I (162) 0), (I (0) 0), (r 249), (I (164) 0), (I (0) 0), (r 254), (I (169) 0), (I (0) 0), (r 261), (I (171) 0), (I (0) 0), (r 268), (I (176) 0), (I (0) 0), (r 275), (I (181) 0), (I (0) 0), (r 282), (I (192) 0), (I (0) 0), (r 289), (I (195) 0), (I (0) 0), (r 296), (I (202) 0), (I (0) 0), (r 303), (I (220) 0), (I (0) 0), (r 310), (I (233) 0), (I (0) 0), (r 317), (I (242) 0), (I (0) 0), (r 324), (I (247) 0), (I (0) 0), (r 329), (I (273) 0), (I (0) 0), (r 338), (I (279) 0), (I (0) 0), (r 345), (I (284) 0), (I (0) 0), (r 350), (I (289) 0), (I (0) 0), (r 357), (I (291) 0), (I (0) 0), (r 364), (I (299) 0), (I (0) 0), (r 369), (I (305) 0), (I (0) 0), (r 376), (I (311) 0), (I (0) 0), (r 383), (I (318) 0), (I (0) 0), (r 388), (I (336) 0), (I (0) 0), (r 395), (I (341) 0), (I (0) 0), (r 400), (I (352) 0), (I (0) 0), (r 407), (I (370) 0), (I (0) 0), (r 414), (I (385) 0), (I (0) 0), (r 421), (I (402) 0), (I (0) 0), (r 429), (I (413) 0), (I (0) 0), (r 436), (I (423) 0), (I (0) 0), (r 443), (I (429) 0), (I (0) 0), (r 448), (I (439) 0), (I (0) 0), (r 455), (I (447) 0), (I (0) 0), (r 462), (I (453) 0), (I (0) 0), (r 470), (I (458) 0), (I (0) 0), (r 477), (I (460) 0), (I (0) 0), (r 484), (I (462) 0), (I (0) 0), (r 491), (I (467) 0), (I (0) 0), (r 498), (I (474) 0), (I (0) 0), (r 505), (I (481) 0), (I (0) 0), (r 512), (I (487) 0), (I (0) 0), (r 519), (I (495) 0), (I (0) 0), (r 524)])) []
noncomputable def t_pre (P : Params) : BT := (nd (o0 P) (nd (o1 P) (nd (o3_pre P) (nd (o7 P) nl nl) (nd (o11 P) nl nl)) (nd (o5 P) (nd (o9 P) nl nl) (nd (o13 P) nl nl))) (nd (o2_pre P) (nd (o4 P) (nd (o8 P) nl nl) (nd (o12_pre P) nl nl)) (nd (o6 P) (nd (o10 P) nl nl) (nd (o14 P) nl nl))))
noncomputable def t_p9 (P : Params) : BT := (nd (o0 P) (nd (o1 P) (nd (o3_p9 P) (nd (o7 P) (nd (o15 P) (nd (o31 P) nl nl) (nd (o47 P) nl nl)) (nd (o23 P) (nd (o39 P) nl nl) (nd (o55 P) nl nl))) (nd (o11 P) (nd (o19 P) (nd (o35 P) nl nl) (nd (o51 P) nl nl)) (nd (o27 P) (nd (o43 P) nl nl) nl))) (nd (o5 P) (nd (o9 P) (nd (o17 P) (nd (o33 P) nl nl) (nd (o49 P) nl nl)) (nd (o25 P) (nd (o41 P) nl nl) (nd (o57 P) nl nl))) (nd (o13 P) (nd (o21 P) (nd (o37 P) nl nl) (nd (o53 P) nl nl)) (nd (o29 P) (nd (o45 P) nl nl) nl)))) (nd (o2 P) (nd (o4 P) (nd (o8 P) (nd (o16 P) (nd (o32 P) nl nl) (nd (o48 P) nl nl)) (nd (o24 P) (nd (o40 P) nl nl) (nd (o56 P) nl nl))) (nd (o12_p9 P) (nd (o20 P) (nd (o36 P) nl nl) (nd (o52 P) nl nl)) (nd (o28 P) (nd (o44 P) nl nl) nl))) (nd (o6 P) (nd (o10 P) (nd (o18 P) (nd (o34 P) nl nl) (nd (o50 P) nl nl)) (nd (o26 P) (nd (o42 P) nl nl) nl)) (nd (o14 P) (nd (o22 P) (nd (o38 P) nl nl) (nd (o54 P) nl nl)) (nd (o30 P) (nd (o46 P) nl nl) nl)))))
noncomputable def t_p23 (P : Params) : BT := (nd (o0 P) (nd (o1 P) (nd (o3_p23 P) (nd (o7 P) (nd (o15 P) (nd (o31 P) (nd (o63 P) (nd (o127 P) nl nl) nl) (nd (o95 P) nl nl)) (nd (o47 P) (nd (o79 P) (nd (o143 P) nl nl) nl) (nd (o111 P) nl nl))) (nd (o23 P) (nd (o39 P) (nd (o71 P) (nd (o135 P) nl nl) nl) (nd (o103 P) nl nl)) (nd (o55 P) (nd (o87 P) nl nl) (nd (o119 P) nl nl)))) (nd (o11 P) (nd (o19 P) (nd (o35 P) (nd (o67 P) (nd (o131 P) nl nl) nl) (nd (o99 P) nl nl)) (nd (o51 P) (nd (o83 P) nl nl) (nd (o115 P) nl nl))) (nd (o27 P) (nd (o43 P) (nd (o75 P) (nd (o139 P) nl nl) nl) (nd (o107 P) nl nl)) (nd (o59 P) (nd (o91 P) nl nl) (nd (o123 P) nl nl))))) (nd (o5 P) (nd (o9 P) (nd (o17 P) (nd (o33 P) (nd (o65 P) (nd (o129 P) nl nl) nl) (nd (o97 P) nl nl)) (nd (o49 P) (nd (o81 P) (nd (o145 P) nl nl) nl) (nd (o113 P) nl nl))) (nd (o25 P) (nd (o41 P) (nd (o73 P) (nd (o137 P) nl nl) nl) (nd (o105 P) nl nl)) (nd (o57 P) (nd (o89 P) nl nl) (nd (o121 P) nl nl)))) (nd (o13 P) (nd (o21 P) (nd (o37 P) (nd (o69 P) (nd (o133 P) nl nl) nl) (nd (o101 P) nl nl)) (nd (o53 P) (nd (o85 P) nl nl) (nd (o117 P) nl nl))) (nd (o29 P) (nd (o45 P) (nd (o77 P) (nd (o141 P) nl nl) nl) (nd (o109 P) nl nl)) (nd (o61 P) (nd (o93 P) nl nl) (nd (o125 P) nl nl)))))) (nd (o2 P) (nd (o4 P) (nd (o8 P) (nd (o16 P) (nd (o32 P) (nd (o64 P) (nd (o128 P) nl nl) nl) (nd (o96 P) nl nl)) (nd (o48 P) (nd (o80 P) (nd (o144 P) nl nl) nl) (nd (o112 P) nl nl))) (nd (o24 P) (nd (o40 P) (nd (o72 P) (nd (o136 P) nl nl) nl) (nd (o104 P) nl nl)) (nd (o56 P) (nd (o88 P) nl nl) (nd (o120 P) nl nl)))) (nd (o12_p23 P) (nd (o20 P) (nd (o36 P) (nd (o68 P) (nd (o132 P) nl nl) nl) (nd (o100 P) nl nl)) (nd (o52 P) (nd (o84 P) nl nl) (nd (o116 P) nl nl))) (nd (o28 P) (nd (o44 P) (nd (o76 P) (nd (o140 P) nl nl) nl) (nd (o108 P) nl nl)) (nd (o60 P) (nd (o92 P) nl nl) (nd (o124 P) nl nl))))) (nd (o6 P) (nd (o10 P) (nd (o18 P) (nd (o34 P) (nd (o66 P) (nd (o130 P) nl nl) nl) (nd (o98 P) nl nl)) (nd (o50 P) (nd (o82 P) (nd (o146 P) nl nl) nl) (nd (o114 P) nl nl))) (nd (o26 P) (nd (o42 P) (nd (o74 P) (nd (o138 P) nl nl) nl) (nd (o106 P) nl nl)) (nd (o58 P) (nd (o90 P) nl nl) (nd (o122 P) nl nl)))) (nd (o14 P) (nd (o22 P) (nd (o38 P) (nd (o70 P) (nd (o134 P) nl nl) nl) (nd (o102 P) nl nl)) (nd (o54 P) (nd (o86 P) nl nl) (nd (o118 P) nl nl))) (nd (o30 P) (nd (o46 P) (nd (o78 P) (nd (o142 P) nl nl) nl) (nd (o110 P) nl nl)) (nd (o62 P) (nd (o94 P) nl nl) (nd (o126 P) nl nl)))))))
noncomputable def t_p36 (P : Params) : BT := (nd (o0 P) (nd (o1 P) (nd (o3_p36 P) (nd (o7 P) (nd (o15 P) (nd (o31 P) (nd (o63 P) (nd (o127 P) nl nl) (nd (o191 P) nl nl)) (nd (o95 P) (nd (o159 P) nl nl) (nd (o223 P) nl nl))) (nd (o47 P) (nd (o79 P) (nd (o143 P) nl nl) (nd (o207 P) nl nl)) (nd (o111 P) (nd (o175 P) nl nl) nl))) (nd (o23 P) (nd (o39 P) (nd (o71 P) (nd (o135 P) nl nl) (nd (o199 P) nl nl)) (nd (o103 P) (nd (o167 P) nl nl) nl)) (nd (o55 P) (nd (o87 P) (nd (o151 P) nl nl) (nd (o215 P) nl nl)) (nd (o119 P) (nd (o183 P) nl nl) nl)))) (nd (o11 P) (nd (o19 P) (nd (o35 P) (nd (o67 P) (nd (o131 P) nl nl) (nd (o195 P) nl nl)) (nd (o99 P) (nd (o163 P) nl nl) (nd (o227 P) nl nl))) (nd (o51 P) (nd (o83 P) (nd (o147 P) nl nl) (nd (o211 P) nl nl)) (nd (o115 P) (nd (o179 P) nl nl) nl))) (nd (o27 P) (nd (o43 P) (nd (o75 P) (nd (o139 P) nl nl) (nd (o203 P) nl nl)) (nd (o107 P) (nd (o171 P) nl nl) nl)) (nd (o59 P) (nd (o91 P) (nd (o155 P) nl nl) (nd (o219 P) nl nl)) (nd (o123 P) (nd (o187 P) nl nl) nl))))) (nd (o5 P) (nd (o9 P) (nd (o17 P) (nd (o33 P) (nd (o65 P) (nd (o129 P) nl nl) (nd (o193 P) nl nl)) (nd (o97 P) (nd (o161 P) nl nl) (nd (o225 P) nl nl))) (nd (o49 P) (nd (o81 P) (nd (o145 P) nl nl) (nd (o209 P) nl nl)) (nd (o113 P) (nd (o177 P) nl nl) nl))) (nd (o25 P) (nd (o41 P) (nd (o73 P) (nd (o137 P) nl nl) (nd (o201 P) nl nl)) (nd (o105 P) (nd (o169 P) nl nl) nl)) (nd (o57 P) (nd (o89 P) (nd (o153 P) nl nl) (nd (o217 P) nl nl)) (nd (o121 P) (nd (o185 P) nl nl) nl)))) (nd (o13 P) (nd (o21 P) (nd (o37 P) (nd (o69 P) (nd (o133 P) nl nl) (nd (o197 P) nl nl)) (nd (o101 P) (nd (o165 P) nl nl) (nd (o229 P) nl nl))) (nd (o53 P) (nd (o85 P) (nd (o149 P) nl nl) (nd (o213 P) nl nl)) (nd (o117 P) (nd (o181 P) nl nl) nl))) (nd (o29 P) (nd (o45 P) (nd (o77 P) (nd (o141 P) nl nl) (nd (o205 P) nl nl)) (nd (o109 P) (nd (o173 P) nl nl) nl)) (nd (o61 P) (nd (o93 P) (nd (o157 P) nl nl) (nd (o221 P) nl nl)) (nd (o125 P) (nd (o189 P) nl nl) nl)))))) (nd (o2 P) (nd (o4 P) (nd (o8 P) (nd (o16 P) (nd (o32 P) (nd (o64 P) (nd (o128 P) nl nl) (nd (o192 P) nl nl)) (nd (o96 P) (nd (o160 P) nl nl) (nd (o224 P) nl nl))) (nd (o48 P) (nd (o80 P) (nd (o144 P) nl nl) (nd (o208 P) nl nl)) (nd (o112 P) (nd (o176 P) nl nl) nl))) (nd (o24 P) (nd (o40 P) (nd (o72 P) (nd (o136 P) nl nl) (nd (o200 P) nl nl)) (nd (o104 P) (nd (o168 P) nl nl) nl)) (nd (o56 P) (nd (o88 P) (nd (o152 P) nl nl) (nd (o216 P) nl nl)) (nd (o120 P) (nd (o184 P) nl nl) nl)))) (nd (o12_p36 P) (nd (o20 P) (nd (o36 P) (nd (o68 P) (nd (o132 P) nl nl) (nd (o196 P) nl nl)) (nd (o100 P) (nd (o164 P) nl nl) (nd (o228 P) nl nl))) (nd (o52 P) (nd (o84 P) (nd (o148 P) nl nl) (nd (o212 P) nl nl)) (nd (o116 P) (nd (o180 P) nl nl) nl))) (nd (o28 P) (nd (o44 P) (nd (o76 P) (nd (o140 P) nl nl) (nd (o204 P) nl nl)) (nd (o108 P) (nd (o172 P) nl nl) nl)) (nd (o60 P) (nd (o92 P) (nd (o156 P) nl nl) (nd (o220 P) nl nl)) (nd (o124 P) (nd (o188 P) nl nl) nl))))) (nd (o6 P) (nd (o10 P) (nd (o18 P) (nd (o34 P) (nd (o66 P) (nd (o130 P) nl nl) (nd (o194 P) nl nl)) (nd (o98 P) (nd (o162 P) nl nl) (nd (o226 P) nl nl))) (nd (o50 P) (nd (o82 P) (nd (o146 P) nl nl) (nd (o210 P) nl nl)) (nd (o114 P) (nd (o178 P) nl nl) nl))) (nd (o26 P) (nd (o42 P) (nd (o74 P) (nd (o138 P) nl nl) (nd (o202 P) nl nl)) (nd (o106 P) (nd (o170 P) nl nl) nl)) (nd (o58 P) (nd (o90 P) (nd (o154 P) nl nl) (nd (o218 P) nl nl)) (nd (o122 P) (nd (o186 P) nl nl) nl)))) (nd (o14 P) (nd (o22 P) (nd (o38 P) (nd (o70 P) (nd (o134 P) nl nl) (nd (o198 P) nl nl)) (nd (o102 P) (nd (o166 P) nl nl) nl)) (nd (o54 P) (nd (o86 P) (nd (o150 P) nl nl) (nd (o214 P) nl nl)) (nd (o118 P) (nd (o182 P) nl nl) nl))) (nd (o30 P) (nd (o46 P) (nd (o78 P) (nd (o142 P) nl nl) (nd (o206 P) nl nl)) (nd (o110 P) (nd (o174 P) nl nl) nl)) (nd (o62 P) (nd (o94 P) (nd (o158 P) nl nl) (nd (o222 P) nl nl)) (nd (o126 P) (nd (o190 P) nl nl) nl)))))))
noncomputable def t_p50 (P : Params) : BT := (nd (o0 P) (nd (o1 P) (nd (o3_p50 P) (nd (o7 P) (nd (o15 P) (nd (o31 P) (nd (o63 P) (nd (o127 P) (nd (o255 P) nl nl) nl) (nd (o191 P) nl nl)) (nd (o95 P) (nd (o159 P) (nd (o287 P) nl nl) nl) (nd (o223 P) nl nl))) (nd (o47 P) (nd (o79 P) (nd (o143 P) (nd (o271 P) nl nl) nl) (nd (o207 P) nl nl)) (nd (o111 P) (nd (o175 P) (nd (o303 P) nl nl) nl) (nd (o239 P) nl nl)))) (nd (o23 P) (nd (o39 P) (nd (o71 P) (nd (o135 P) (nd (o263 P) nl nl) nl) (nd (o199 P) nl nl)) (nd (o103 P) (nd (o167 P) (nd (o295 P) nl nl) nl) (nd (o231 P) nl nl))) (nd (o55 P) (nd (o87 P) (nd (o151 P) (nd (o279 P) nl nl) nl) (nd (o215 P) nl nl)) (nd (o119 P) (nd (o183 P) nl nl) (nd (o247 P) nl nl))))) (nd (o11 P) (nd (o19 P) (nd (o35 P) (nd (o67 P) (nd (o131 P) (nd (o259 P) nl nl) nl) (nd (o195 P) nl nl)) (nd (o99 P) (nd (o163 P) (nd (o291 P) nl nl) nl) (nd (o227 P) nl nl))) (nd (o51 P) (nd (o83 P) (nd (o147 P) (nd (o275 P) nl nl) nl) (nd (o211 P) nl nl)) (nd (o115 P) (nd (o179 P) nl nl) (nd (o243 P) nl nl)))) (nd (o27 P) (nd (o43 P) (nd (o75 P) (nd (o139 P) (nd (o267 P) nl nl) nl) (nd (o203 P) nl nl)) (nd (o107 P) (nd (o171 P) (nd (o299 P) nl nl) nl) (nd (o235 P) nl nl))) (nd (o59 P) (nd (o91 P) (nd (o155 P) (nd (o283 P) nl nl) nl) (nd (o219 P) nl nl)) (nd (o123 P) (nd (o187 P) nl nl) (nd (o251 P) nl nl)))))) (nd (o5 P) (nd (o9 P) (nd (o17 P) (nd (o33 P) (nd (o65 P) (nd (o129 P) (nd (o257 P) nl nl) nl) (nd (o193 P) nl nl)) (nd (o97 P) (nd (o161 P) (nd (o289 P) nl nl) nl) (nd (o225 P) nl nl))) (nd (o49 P) (nd (o81 P) (nd (o145 P) (nd (o273 P) nl nl) nl) (nd (o209 P) nl nl)) (nd (o113 P) (nd (o177 P) nl nl) (nd (o241 P) nl nl)))) (nd (o25 P) (nd (o41 P) (nd (o73 P) (nd (o137 P) (nd (o265 P) nl nl) nl) (nd (o201 P) nl nl)) (nd (o105 P) (nd (o169 P) (nd (o297 P) nl nl) nl) (nd (o233 P) nl nl))) (nd (o57 P) (nd (o89 P) (nd (o153 P) (nd (o281 P) nl nl) nl) (nd (o217 P) nl nl)) (nd (o121 P) (nd (o185 P) nl nl) (nd (o249 P) nl nl))))) (nd (o13 P) (nd (o21 P) (nd (o37 P) (nd (o69 P) (nd (o133 P) (nd (o261 P) nl nl) nl) (nd (o197 P) nl nl)) (nd (o101 P) (nd (o165 P) (nd (o293 P) nl nl) nl) (nd (o229 P) nl nl))) (nd (o53 P) (nd (o85 P) (nd (o149 P) (nd (o277 P) nl nl) nl) (nd (o213 P) nl nl)) (nd (o117 P) (nd (o181 P) nl nl) (nd (o245 P) nl nl)))) (nd (o29 P) (nd (o45 P) (nd (o77 P) (nd (o141 P) (nd (o269 P) nl nl) nl) (nd (o205 P) nl nl)) (nd (o109 P) (nd (o173 P) (nd (o301 P) nl nl) nl) (nd (o237 P) nl nl))) (nd (o61 P) (nd (o93 P) (nd (o157 P) (nd (o285 P) nl nl) nl) (nd (o221 P) nl nl)) (nd (o125 P) (nd (o189 P) nl nl) (nd (o253 P) nl nl))))))) (nd (o2 P) (nd (o4 P) (nd (o8 P) (nd (o16 P) (nd (o32 P) (nd (o64 P) (nd (o128 P) (nd (o256 P) nl nl) nl) (nd (o192 P) nl nl)) (nd (o96 P) (nd (o160 P) (nd (o288 P) nl nl) nl) (nd (o224 P) nl nl))) (nd (o48 P) (nd (o80 P) (nd (o144 P) (nd (o272 P) nl nl) nl) (nd (o208 P) nl nl)) (nd (o112 P) (nd (o176 P) (nd (o304 P) nl nl) nl) (nd (o240 P) nl nl)))) (nd (o24 P) (nd (o40 P) (nd (o72 P) (nd (o136 P) (nd (o264 P) nl nl) nl) (nd (o200 P) nl nl)) (nd (o104 P) (nd (o168 P) (nd (o296 P) nl nl) nl) (nd (o232 P) nl nl))) (nd (o56 P) (nd (o88 P) (nd (o152 P) (nd (o280 P) nl nl) nl) (nd (o216 P) nl nl)) (nd (o120 P) (nd (o184 P) nl nl) (nd (o248 P) nl nl))))) (nd (o12_p50 P) (nd (o20 P) (nd (o36 P) (nd (o68 P) (nd (o132 P) (nd (o260 P) nl nl) nl) (nd (o196 P) nl nl)) (nd (o100 P) (nd (o164 P) (nd (o292 P) nl nl) nl) (nd (o228 P) nl nl))) (nd (o52 P) (nd (o84 P) (nd (o148 P) (nd (o276 P) nl nl) nl) (nd (o212 P) nl nl)) (nd (o116 P) (nd (o180 P) nl nl) (nd (o244 P) nl nl)))) (nd (o28 P) (nd (o44 P) (nd (o76 P) (nd (o140 P) (nd (o268 P) nl nl) nl) (nd (o204 P) nl nl)) (nd (o108 P) (nd (o172 P) (nd (o300 P) nl nl) nl) (nd (o236 P) nl nl))) (nd (o60 P) (nd (o92 P) (nd (o156 P) (nd (o284 P) nl nl) nl) (nd (o220 P) nl nl)) (nd (o124 P) (nd (o188 P) nl nl) (nd (o252 P) nl nl)))))) (nd (o6 P) (nd (o10 P) (nd (o18 P) (nd (o34 P) (nd (o66 P) (nd (o130 P) (nd (o258 P) nl nl) nl) (nd (o194 P) nl nl)) (nd (o98 P) (nd (o162 P) (nd (o290 P) nl nl) nl) (nd (o226 P) nl nl))) (nd (o50 P) (nd (o82 P) (nd (o146 P) (nd (o274 P) nl nl) nl) (nd (o210 P) nl nl)) (nd (o114 P) (nd (o178 P) nl nl) (nd (o242 P) nl nl)))) (nd (o26 P) (nd (o42 P) (nd (o74 P) (nd (o138 P) (nd (o266 P) nl nl) nl) (nd (o202 P) nl nl)) (nd (o106 P) (nd (o170 P) (nd (o298 P) nl nl) nl) (nd (o234 P) nl nl))) (nd (o58 P) (nd (o90 P) (nd (o154 P) (nd (o282 P) nl nl) nl) (nd (o218 P) nl nl)) (nd (o122 P) (nd (o186 P) nl nl) (nd (o250 P) nl nl))))) (nd (o14 P) (nd (o22 P) (nd (o38 P) (nd (o70 P) (nd (o134 P) (nd (o262 P) nl nl) nl) (nd (o198 P) nl nl)) (nd (o102 P) (nd (o166 P) (nd (o294 P) nl nl) nl) (nd (o230 P) nl nl))) (nd (o54 P) (nd (o86 P) (nd (o150 P) (nd (o278 P) nl nl) nl) (nd (o214 P) nl nl)) (nd (o118 P) (nd (o182 P) nl nl) (nd (o246 P) nl nl)))) (nd (o30 P) (nd (o46 P) (nd (o78 P) (nd (o142 P) (nd (o270 P) nl nl) nl) (nd (o206 P) nl nl)) (nd (o110 P) (nd (o174 P) (nd (o302 P) nl nl) nl) (nd (o238 P) nl nl))) (nd (o62 P) (nd (o94 P) (nd (o158 P) (nd (o286 P) nl nl) nl) (nd (o222 P) nl nl)) (nd (o126 P) (nd (o190 P) nl nl) (nd (o254 P) nl nl))))))))
noncomputable def t_p65 (P : Params) : BT := (nd (o0 P) (nd (o1 P) (nd (o3_p65 P) (nd (o7 P) (nd (o15 P) (nd (o31 P) (nd (o63 P) (nd (o127 P) (nd (o255 P) nl nl) nl) (nd (o191 P) (nd (o319 P) nl nl) nl)) (nd (o95 P) (nd (o159 P) (nd (o287 P) nl nl) nl) (nd (o223 P) (nd (o351 P) nl nl) nl))) (nd (o47 P) (nd (o79 P) (nd (o143 P) (nd (o271 P) nl nl) nl) (nd (o207 P) (nd (o335 P) nl nl) nl)) (nd (o111 P) (nd (o175 P) (nd (o303 P) nl nl) nl) (nd (o239 P) (nd (o367 P) nl nl) nl)))) (nd (o23 P) (nd (o39 P) (nd (o71 P) (nd (o135 P) (nd (o263 P) nl nl) nl) (nd (o199 P) (nd (o327 P) nl nl) nl)) (nd (o103 P) (nd (o167 P) (nd (o295 P) nl nl) nl) (nd (o231 P) (nd (o359 P) nl nl) nl))) (nd (o55 P) (nd (o87 P) (nd (o151 P) (nd (o279 P) nl nl) nl) (nd (o215 P) (nd (o343 P) nl nl) nl)) (nd (o119 P) (nd (o183 P) (nd (o311 P) nl nl) nl) (nd (o247 P) (nd (o375 P) nl nl) nl))))) (nd (o11 P) (nd (o19 P) (nd (o35 P) (nd (o67 P) (nd (o131 P) (nd (o259 P) nl nl) nl) (nd (o195 P) (nd (o323 P) nl nl) nl)) (nd (o99 P) (nd (o163 P) (nd (o291 P) nl nl) nl) (nd (o227 P) (nd (o355 P) nl nl) nl))) (nd (o51 P) (nd (o83 P) (nd (o147 P) (nd (o275 P) nl nl) nl) (nd (o211 P) (nd (o339 P) nl nl) nl)) (nd (o115 P) (nd (o179 P) (nd (o307 P) nl nl) nl) (nd (o243 P) (nd (o371 P) nl nl) nl)))) (nd (o27 P) (nd (o43 P) (nd (o75 P) (nd (o139 P) (nd (o267 P) nl nl) nl) (nd (o203 P) (nd (o331 P) nl nl) nl)) (nd (o107 P) (nd (o171 P) (nd (o299 P) nl nl) nl) (nd (o235 P) (nd (o363 P) nl nl) nl))) (nd (o59 P) (nd (o91 P) (nd (o155 P) (nd (o283 P) nl nl) nl) (nd (o219 P) (nd (o347 P) nl nl) nl)) (nd (o123 P) (nd (o187 P) (nd (o315 P) nl nl) nl) (nd (o251 P) nl nl)))))) (nd (o5 P) (nd (o9 P) (nd (o17 P) (nd (o33 P) (nd (o65 P) (nd (o129 P) (nd (o257 P) nl nl) nl) (nd (o193 P) (nd (o321 P) nl nl) nl)) (nd (o97 P) (nd (o161 P) (nd (o289 P) nl nl) nl) (nd (o225 P) (nd (o353 P) nl nl) nl))) (nd (o49 P) (nd (o81 P) (nd (o145 P) (nd (o273 P) nl nl) nl) (nd (o209 P) (nd (o337 P) nl nl) nl)) (nd (o113 P) (nd (o177 P) (nd (o305 P) nl nl) nl) (nd (o241 P) (nd (o369 P) nl nl) nl)))) (nd (o25 P) (nd (o41 P) (nd (o73 P) (nd (o137 P) (nd (o265 P) nl nl) nl) (nd (o201 P) (nd (o329 P) nl nl) nl)) (nd (o105 P) (nd (o169 P) (nd (o297 P) nl nl) nl) (nd (o233 P) (nd (o361 P) nl nl) nl))) (nd (o57 P) (nd (o89 P) (nd (o153 P) (nd (o281 P) nl nl) nl) (nd (o217 P) (nd (o345 P) nl nl) nl)) (nd (o121 P) (nd (o185 P) (nd (o313 P) nl nl) nl) (nd (o249 P) (nd (o377 P) nl nl) nl))))) (nd (o13 P) (nd (o21 P) (nd (o37 P) (nd (o69 P) (nd (o133 P) (nd (o261 P) nl nl) nl) (nd (o197 P) (nd (o325 P) nl nl) nl)) (nd (o101 P) (nd (o165 P) (nd (o293 P) nl nl) nl) (nd (o229 P) (nd (o357 P) nl nl) nl))) (nd (o53 P) (nd (o85 P) (nd (o149 P) (nd (o277 P) nl nl) nl) (nd (o213 P) (nd (o341 P) nl nl) nl)) (nd (o117 P) (nd (o181 P) (nd (o309 P) nl nl) nl) (nd (o245 P) (nd (o373 P) nl nl) nl)))) (nd (o29 P) (nd (o45 P) (nd (o77 P) (nd (o141 P) (nd (o269 P) nl nl) nl) (nd (o205 P) (nd (o333 P) nl nl) nl)) (nd (o109 P) (nd (o173 P) (nd (o301 P) nl nl) nl) (nd (o237 P) (nd (o365 P) nl nl) nl))) (nd (o61 P) (nd (o93 P) (nd (o157 P) (nd (o285 P) nl nl) nl) (nd (o221 P) (nd (o349 P) nl nl) nl)) (nd (o125 P) (nd (o189 P) (nd (o317 P) nl nl) nl) (nd (o253 P) nl nl))))))) (nd (o2 P) (nd (o4 P) (nd (o8 P) (nd (o16 P) (nd (o32 P) (nd (o64 P) (nd (o128 P) (nd (o256 P) nl nl) nl) (nd (o192 P) (nd (o320 P) nl nl) nl)) (nd (o96 P) (nd (o160 P) (nd (o288 P) nl nl) nl) (nd (o224 P) (nd (o352 P) nl nl) nl))) (nd (o48 P) (nd (o80 P) (nd (o144 P) (nd (o272 P) nl nl) nl) (nd (o208 P) (nd (o336 P) nl nl) nl)) (nd (o112 P) (nd (o176 P) (nd (o304 P) nl nl) nl) (nd (o240 P) (nd (o368 P) nl nl) nl)))) (nd (o24 P) (nd (o40 P) (nd (o72 P) (nd (o136 P) (nd (o264 P) nl nl) nl) (nd (o200 P) (nd (o328 P) nl nl) nl)) (nd (o104 P) (nd (o168 P) (nd (o296 P) nl nl) nl) (nd (o232 P) (nd (o360 P) nl nl) nl))) (nd (o56 P) (nd (o88 P) (nd (o152 P) (nd (o280 P) nl nl) nl) (nd (o216 P) (nd (o344 P) nl nl) nl)) (nd (o120 P) (nd (o184 P) (nd (o312 P) nl nl) nl) (nd (o248 P) (nd (o376 P) nl nl) nl))))) (nd (o12_p65 P) (nd (o20 P) (nd (o36 P) (nd (o68 P) (nd (o132 P) (nd (o260 P) nl nl) nl) (nd (o196 P) (nd (o324 P) nl nl) nl)) (nd (o100 P) (nd (o164 P) (nd (o292 P) nl nl) nl) (nd (o228 P) (nd (o356 P) nl nl) nl))) (nd (o52 P) (nd (o84 P) (nd (o148 P) (nd (o276 P) nl nl) nl) (nd (o212 P) (nd (o340 P) nl nl) nl)) (nd (o116 P) (nd (o180 P) (nd (o308 P) nl nl) nl) (nd (o244 P) (nd (o372 P) nl nl) nl)))) (nd (o28 P) (nd (o44 P) (nd (o76 P) (nd (o140 P) (nd (o268 P) nl nl) nl) (nd (o204 P) (nd (o332 P) nl nl) nl)) (nd (o108 P) (nd (o172 P) (nd (o300 P) nl nl) nl) (nd (o236 P) (nd (o364 P) nl nl) nl))) (nd (o60 P) (nd (o92 P) (nd (o156 P) (nd (o284 P) nl nl) nl) (nd (o220 P) (nd (o348 P) nl nl) nl)) (nd (o124 P) (nd (o188 P) (nd (o316 P) nl nl) nl) (nd (o252 P) nl nl)))))) (nd (o6 P) (nd (o10 P) (nd (o18 P) (nd (o34 P) (nd (o66 P) (nd (o130 P) (nd (o258 P) nl nl) nl) (nd (o194 P) (nd (o322 P) nl nl) nl)) (nd (o98 P) (nd (o162 P) (nd (o290 P) nl nl) nl) (nd (o226 P) (nd (o354 P) nl nl) nl))) (nd (o50 P) (nd (o82 P) (nd (o146 P) (nd (o274 P) nl nl) nl) (nd (o210 P) (nd (o338 P) nl nl) nl)) (nd (o114 P) (nd (o178 P) (nd (o306 P) nl nl) nl) (nd (o242 P) (nd (o370 P) nl nl) nl)))) (nd (o26 P) (nd (o42 P) (nd (o74 P) (nd (o138 P) (nd (o266 P) nl nl) nl) (nd (o202 P) (nd (o330 P) nl nl) nl)) (nd (o106 P) (nd (o170 P) (nd (o298 P) nl nl) nl) (nd (o234 P) (nd (o362 P) nl nl) nl))) (nd (o58 P) (nd (o90 P) (nd (o154 P) (nd (o282 P) nl nl) nl) (nd (o218 P) (nd (o346 P) nl nl) nl)) (nd (o122 P) (nd (o186 P) (nd (o314 P) nl nl) nl) (nd (o250 P) nl nl))))) (nd (o14 P) (nd (o22 P) (nd (o38 P) (nd (o70 P) (nd (o134 P) (nd (o262 P) nl nl) nl) (nd (o198 P) (nd (o326 P) nl nl) nl)) (nd (o102 P) (nd (o166 P) (nd (o294 P) nl nl) nl) (nd (o230 P) (nd (o358 P) nl nl) nl))) (nd (o54 P) (nd (o86 P) (nd (o150 P) (nd (o278 P) nl nl) nl) (nd (o214 P) (nd (o342 P) nl nl) nl)) (nd (o118 P) (nd (o182 P) (nd (o310 P) nl nl) nl) (nd (o246 P) (nd (o374 P) nl nl) nl)))) (nd (o30 P) (nd (o46 P) (nd (o78 P) (nd (o142 P) (nd (o270 P) nl nl) nl) (nd (o206 P) (nd (o334 P) nl nl) nl)) (nd (o110 P) (nd (o174 P) (nd (o302 P) nl nl) nl) (nd (o238 P) (nd (o366 P) nl nl) nl))) (nd (o62 P) (nd (o94 P) (nd (o158 P) (nd (o286 P) nl nl) nl) (nd (o222 P) (nd (o350 P) nl nl) nl)) (nd (o126 P) (nd (o190 P) (nd (o318 P) nl nl) nl) (nd (o254 P) nl nl))))))))
noncomputable def t_p80 (P : Params) : BT := (nd (o0 P) (nd (o1 P) (nd (o3_p80 P) (nd (o7 P) (nd (o15 P) (nd (o31 P) (nd (o63 P) (nd (o127 P) (nd (o255 P) nl nl) (nd (o383 P) nl nl)) (nd (o191 P) (nd (o319 P) nl nl) (nd (o447 P) nl nl))) (nd (o95 P) (nd (o159 P) (nd (o287 P) nl nl) (nd (o415 P) nl nl)) (nd (o223 P) (nd (o351 P) nl nl) nl))) (nd (o47 P) (nd (o79 P) (nd (o143 P) (nd (o271 P) nl nl) (nd (o399 P) nl nl)) (nd (o207 P) (nd (o335 P) nl nl) nl)) (nd (o111 P) (nd (o175 P) (nd (o303 P) nl nl) (nd (o431 P) nl nl)) (nd (o239 P) (nd (o367 P) nl nl) nl)))) (nd (o23 P) (nd (o39 P) (nd (o71 P) (nd (o135 P) (nd (o263 P) nl nl) (nd (o391 P) nl nl)) (nd (o199 P) (nd (o327 P) nl nl) nl)) (nd (o103 P) (nd (o167 P) (nd (o295 P) nl nl) (nd (o423 P) nl nl)) (nd (o231 P) (nd (o359 P) nl nl) nl))) (nd (o55 P) (nd (o87 P) (nd (o151 P) (nd (o279 P) nl nl) (nd (o407 P) nl nl)) (nd (o215 P) (nd (o343 P) nl nl) nl)) (nd (o119 P) (nd (o183 P) (nd (o311 P) nl nl) (nd (o439 P) nl nl)) (nd (o247 P) (nd (o375 P) nl nl) nl))))) (nd (o11 P) (nd (o19 P) (nd (o35 P) (nd (o67 P) (nd (o131 P) (nd (o259 P) nl nl) (nd (o387 P) nl nl)) (nd (o195 P) (nd (o323 P) nl nl) nl)) (nd (o99 P) (nd (o163 P) (nd (o291 P) nl nl) (nd (o419 P) nl nl)) (nd (o227 P) (nd (o355 P) nl nl) nl))) (nd (o51 P) (nd (o83 P) (nd (o147 P) (nd (o275 P) nl nl) (nd (o403 P) nl nl)) (nd (o211 P) (nd (o339 P) nl nl) nl)) (nd (o115 P) (nd (o179 P) (nd (o307 P) nl nl) (nd (o435 P) nl nl)) (nd (o243 P) (nd (o371 P) nl nl) nl)))) (nd (o27 P) (nd (o43 P) (nd (o75 P) (nd (o139 P) (nd (o267 P) nl nl) (nd (o395 P) nl nl)) (nd (o203 P) (nd (o331 P) nl nl) nl)) (nd (o107 P) (nd (o171 P) (nd (o299 P) nl nl) (nd (o427 P) nl nl)) (nd (o235 P) (nd (o363 P) nl nl) nl))) (nd (o59 P) (nd (o91 P) (nd (o155 P) (nd (o283 P) nl nl) (nd (o411 P) nl nl)) (nd (o219 P) (nd (o347 P) nl nl) nl)) (nd (o123 P) (nd (o187 P) (nd (o315 P) nl nl) (nd (o443 P) nl nl)) (nd (o251 P) (nd (o379 P) nl nl) nl)))))) (nd (o5 P) (nd (o9 P) (nd (o17 P) (nd (o33 P) (nd (o65 P) (nd (o129 P) (nd (o257 P) nl nl) (nd (o385 P) nl nl)) (nd (o193 P) (nd (o321 P) nl nl) (nd (o449 P) nl nl))) (nd (o97 P) (nd (o161 P) (nd (o289 P) nl nl) (nd (o417 P) nl nl)) (nd (o225 P) (nd (o353 P) nl nl) nl))) (nd (o49 P) (nd (o81 P) (nd (o145 P) (nd (o273 P) nl nl) (nd (o401 P) nl nl)) (nd (o209 P) (nd (o337 P) nl nl) nl)) (nd (o113 P) (nd (o177 P) (nd (o305 P) nl nl) (nd (o433 P) nl nl)) (nd (o241 P) (nd (o369 P) nl nl) nl)))) (nd (o25 P) (nd (o41 P) (nd (o73 P) (nd (o137 P) (nd (o265 P) nl nl) (nd (o393 P) nl nl)) (nd (o201 P) (nd (o329 P) nl nl) nl)) (nd (o105 P) (nd (o169 P) (nd (o297 P) nl nl) (nd (o425 P) nl nl)) (nd (o233 P) (nd (o361 P) nl nl) nl))) (nd (o57 P) (nd (o89 P) (nd (o153 P) (nd (o281 P) nl nl) (nd (o409 P) nl nl)) (nd (o217 P) (nd (o345 P) nl nl) nl)) (nd (o121 P) (nd (o185 P) (nd (o313 P) nl nl) (nd (o441 P) nl nl)) (nd (o249 P) (nd (o377 P) nl nl) nl))))) (nd (o13 P) (nd (o21 P) (nd (o37 P) (nd (o69 P) (nd (o133 P) (nd (o261 P) nl nl) (nd (o389 P) nl nl)) (nd (o197 P) (nd (o325 P) nl nl) nl)) (nd (o101 P) (nd (o165 P) (nd (o293 P) nl nl) (nd (o421 P) nl nl)) (nd (o229 P) (nd (o357 P) nl nl) nl))) (nd (o53 P) (nd (o85 P) (nd (o149 P) (nd (o277 P) nl nl) (nd (o405 P) nl nl)) (nd (o213 P) (nd (o341 P) nl nl) nl)) (nd (o117 P) (nd (o181 P) (nd (o309 P) nl nl) (nd (o437 P) nl nl)) (nd (o245 P) (nd (o373 P) nl nl) nl)))) (nd (o29 P) (nd (o45 P) (nd (o77 P) (nd (o141 P) (nd (o269 P) nl nl) (nd (o397 P) nl nl)) (nd (o205 P) (nd (o333 P) nl nl) nl)) (nd (o109 P) (nd (o173 P) (nd (o301 P) nl nl) (nd (o429 P) nl nl)) (nd (o237 P) (nd (o365 P) nl nl) nl))) (nd (o61 P) (nd (o93 P) (nd (o157 P) (nd (o285 P) nl nl) (nd (o413 P) nl nl)) (nd (o221 P) (nd (o349 P) nl nl) nl)) (nd (o125 P) (nd (o189 P) (nd (o317 P) nl nl) (nd (o445 P) nl nl)) (nd (o253 P) (nd (o381 P) nl nl) nl))))))) (nd (o2 P) (nd (o4 P) (nd (o8 P) (nd (o16 P) (nd (o32 P) (nd (o64 P) (nd (o128 P) (nd (o256 P) nl nl) (nd (o384 P) nl nl)) (nd (o192 P) (nd (o320 P) nl nl) (nd (o448 P) nl nl))) (nd (o96 P) (nd (o160 P) (nd (o288 P) nl nl) (nd (o416 P) nl nl)) (nd (o224 P) (nd (o352 P) nl nl) nl))) (nd (o48 P) (nd (o80 P) (nd (o144 P) (nd (o272 P) nl nl) (nd (o400 P) nl nl)) (nd (o208 P) (nd (o336 P) nl nl) nl)) (nd (o112 P) (nd (o176 P) (nd (o304 P) nl nl) (nd (o432 P) nl nl)) (nd (o240 P) (nd (o368 P) nl nl) nl)))) (nd (o24 P) (nd (o40 P) (nd (o72 P) (nd (o136 P) (nd (o264 P) nl nl) (nd (o392 P) nl nl)) (nd (o200 P) (nd (o328 P) nl nl) nl)) (nd (o104 P) (nd (o168 P) (nd (o296 P) nl nl) (nd (o424 P) nl nl)) (nd (o232 P) (nd (o360 P) nl nl) nl))) (nd (o56 P) (nd (o88 P) (nd (o152 P) (nd (o280 P) nl nl) (nd (o408 P) nl nl)) (nd (o216 P) (nd (o344 P) nl nl) nl)) (nd (o120 P) (nd (o184 P) (nd (o312 P) nl nl) (nd (o440 P) nl nl)) (nd (o248 P) (nd (o376 P) nl nl) nl))))) (nd (o12_p80 P) (nd (o20 P) (nd (o36 P) (nd (o68 P) (nd (o132 P) (nd (o260 P) nl nl) (nd (o388 P) nl nl)) (nd (o196 P) (nd (o324 P) nl nl) nl)) (nd (o100 P) (nd (o164 P) (nd (o292 P) nl nl) (nd (o420 P) nl nl)) (nd (o228 P) (nd (o356 P) nl nl) nl))) (nd (o52 P) (nd (o84 P) (nd (o148 P) (nd (o276 P) nl nl) (nd (o404 P) nl nl)) (nd (o212 P) (nd (o340 P) nl nl) nl)) (nd (o116 P) (nd (o180 P) (nd (o308 P) nl nl) (nd (o436 P) nl nl)) (nd (o244 P) (nd (o372 P) nl nl) nl)))) (nd (o28 P) (nd (o44 P) (nd (o76 P) (nd (o140 P) (nd (o268 P) nl nl) (nd (o396 P) nl nl)) (nd (o204 P) (nd (o332 P) nl nl) nl)) (nd (o108 P) (nd (o172 P) (nd (o300 P) nl nl) (nd (o428 P) nl nl)) (nd (o236 P) (nd (o364 P) nl nl) nl))) (nd (o60 P) (nd (o92 P) (nd (o156 P) (nd (o284 P) nl nl) (nd (o412 P) nl nl)) (nd (o220 P) (nd (o348 P) nl nl) nl)) (nd (o124 P) (nd (o188 P) (nd (o316 P) nl nl) (nd (o444 P) nl nl)) (nd (o252 P) (nd (o380 P) nl nl) nl)))))) (nd (o6 P) (nd (o10 P) (nd (o18 P) (nd (o34 P) (nd (o66 P) (nd (o130 P) (nd (o258 P) nl nl) (nd (o386 P) nl nl)) (nd (o194 P) (nd (o322 P) nl nl) nl)) (nd (o98 P) (nd (o162 P) (nd (o290 P) nl nl) (nd (o418 P) nl nl)) (nd (o226 P) (nd (o354 P) nl nl) nl))) (nd (o50 P) (nd (o82 P) (nd (o146 P) (nd (o274 P) nl nl) (nd (o402 P) nl nl)) (nd (o210 P) (nd (o338 P) nl nl) nl)) (nd (o114 P) (nd (o178 P) (nd (o306 P) nl nl) (nd (o434 P) nl nl)) (nd (o242 P) (nd (o370 P) nl nl) nl)))) (nd (o26 P) (nd (o42 P) (nd (o74 P) (nd (o138 P) (nd (o266 P) nl nl) (nd (o394 P) nl nl)) (nd (o202 P) (nd (o330 P) nl nl) nl)) (nd (o106 P) (nd (o170 P) (nd (o298 P) nl nl) (nd (o426 P) nl nl)) (nd (o234 P) (nd (o362 P) nl nl) nl))) (nd (o58 P) (nd (o90 P) (nd (o154 P) (nd (o282 P) nl nl) (nd (o410 P) nl nl)) (nd (o218 P) (nd (o346 P) nl nl) nl)) (nd (o122 P) (nd (o186 P) (nd (o314 P) nl nl) (nd (o442 P) nl nl)) (nd (o250 P) (nd (o378 P) nl nl) nl))))) (nd (o14 P) (nd (o22 P) (nd (o38 P) (nd (o70 P) (nd (o134 P) (nd (o262 P) nl nl) (nd (o390 P) nl nl)) (nd (o198 P) (nd (o326 P) nl nl) nl)) (nd (o102 P) (nd (o166 P) (nd (o294 P) nl nl) (nd (o422 P) nl nl)) (nd (o230 P) (nd (o358 P) nl nl) nl))) (nd (o54 P) (nd (o86 P) (nd (o150 P) (nd (o278 P) nl nl) (nd (o406 P) nl nl)) (nd (o214 P) (nd (o342 P) nl nl) nl)) (nd (o118 P) (nd (o182 P) (nd (o310 P) nl nl) (nd (o438 P) nl nl)) (nd (o246 P) (nd (o374 P) nl nl) nl)))) (nd (o30 P) (nd (o46 P) (nd (o78 P) (nd (o142 P) (nd (o270 P) nl nl) (nd (o398 P) nl nl)) (nd (o206 P) (nd (o334 P) nl nl) nl)) (nd (o110 P) (nd (o174 P) (nd (o302 P) nl nl) (nd (o430 P) nl nl)) (nd (o238 P) (nd (o366 P) nl nl) nl))) (nd (o62 P) (nd (o94 P) (nd (o158 P) (nd (o286 P) nl nl) (nd (o414 P) nl nl)) (nd (o222 P) (nd (o350 P) nl nl) nl)) (nd (o126 P) (nd (o190 P) (nd (o318 P) nl nl) (nd (o446 P) nl nl)) (nd (o254 P) (nd (o382 P) nl nl) nl))))))))
noncomputable def t_p93 (P : Params) : BT := (nd (o0 P) (nd (o1 P) (nd (o3_p93 P) (nd (o7 P) (nd (o15 P) (nd (o31 P) (nd (o63 P) (nd (o127 P) (nd (o255 P) (nd (o511 P) nl nl) nl) (nd (o383 P) nl nl)) (nd (o191 P) (nd (o319 P) nl nl) (nd (o447 P) nl nl))) (nd (o95 P) (nd (o159 P) (nd (o287 P) nl nl) (nd (o415 P) nl nl)) (nd (o223 P) (nd (o351 P) nl nl) (nd (o479 P) nl nl)))) (nd (o47 P) (nd (o79 P) (nd (o143 P) (nd (o271 P) nl nl) (nd (o399 P) nl nl)) (nd (o207 P) (nd (o335 P) nl nl) (nd (o463 P) nl nl))) (nd (o111 P) (nd (o175 P) (nd (o303 P) nl nl) (nd (o431 P) nl nl)) (nd (o239 P) (nd (o367 P) nl nl) (nd (o495 P) nl nl))))) (nd (o23 P) (nd (o39 P) (nd (o71 P) (nd (o135 P) (nd (o263 P) (nd (o519 P) nl nl) nl) (nd (o391 P) nl nl)) (nd (o199 P) (nd (o327 P) nl nl) (nd (o455 P) nl nl))) (nd (o103 P) (nd (o167 P) (nd (o295 P) nl nl) (nd (o423 P) nl nl)) (nd (o231 P) (nd (o359 P) nl nl) (nd (o487 P) nl nl)))) (nd (o55 P) (nd (o87 P) (nd (o151 P) (nd (o279 P) nl nl) (nd (o407 P) nl nl)) (nd (o215 P) (nd (o343 P) nl nl) (nd (o471 P) nl nl))) (nd (o119 P) (nd (o183 P) (nd (o311 P) nl nl) (nd (o439 P) nl nl)) (nd (o247 P) (nd (o375 P) nl nl) (nd (o503 P) nl nl)))))) (nd (o11 P) (nd (o19 P) (nd (o35 P) (nd (o67 P) (nd (o131 P) (nd (o259 P) (nd (o515 P) nl nl) nl) (nd (o387 P) nl nl)) (nd (o195 P) (nd (o323 P) nl nl) (nd (o451 P) nl nl))) (nd (o99 P) (nd (o163 P) (nd (o291 P) nl nl) (nd (o419 P) nl nl)) (nd (o227 P) (nd (o355 P) nl nl) (nd (o483 P) nl nl)))) (nd (o51 P) (nd (o83 P) (nd (o147 P) (nd (o275 P) nl nl) (nd (o403 P) nl nl)) (nd (o211 P) (nd (o339 P) nl nl) (nd (o467 P) nl nl))) (nd (o115 P) (nd (o179 P) (nd (o307 P) nl nl) (nd (o435 P) nl nl)) (nd (o243 P) (nd (o371 P) nl nl) (nd (o499 P) nl nl))))) (nd (o27 P) (nd (o43 P) (nd (o75 P) (nd (o139 P) (nd (o267 P) (nd (o523 P) nl nl) nl) (nd (o395 P) nl nl)) (nd (o203 P) (nd (o331 P) nl nl) (nd (o459 P) nl nl))) (nd (o107 P) (nd (o171 P) (nd (o299 P) nl nl) (nd (o427 P) nl nl)) (nd (o235 P) (nd (o363 P) nl nl) (nd (o491 P) nl nl)))) (nd (o59 P) (nd (o91 P) (nd (o155 P) (nd (o283 P) nl nl) (nd (o411 P) nl nl)) (nd (o219 P) (nd (o347 P) nl nl) (nd (o475 P) nl nl))) (nd (o123 P) (nd (o187 P) (nd (o315 P) nl nl) (nd (o443 P) nl nl)) (nd (o251 P) (nd (o379 P) nl nl) (nd (o507 P) nl nl))))))) (nd (o5 P) (nd (o9 P) (nd (o17 P) (nd (o33 P) (nd (o65 P) (nd (o129 P) (nd (o257 P) (nd (o513 P) nl nl) nl) (nd (o385 P) nl nl)) (nd (o193 P) (nd (o321 P) nl nl) (nd (o449 P) nl nl))) (nd (o97 P) (nd (o161 P) (nd (o289 P) nl nl) (nd (o417 P) nl nl)) (nd (o225 P) (nd (o353 P) nl nl) (nd (o481 P) nl nl)))) (nd (o49 P) (nd (o81 P) (nd (o145 P) (nd (o273 P) nl nl) (nd (o401 P) nl nl)) (nd (o209 P) (nd (o337 P) nl nl) (nd (o465 P) nl nl))) (nd (o113 P) (nd (o177 P) (nd (o305 P) nl nl) (nd (o433 P) nl nl)) (nd (o241 P) (nd (o369 P) nl nl) (nd (o497 P) nl nl))))) (nd (o25 P) (nd (o41 P) (nd (o73 P) (nd (o137 P) (nd (o265 P) (nd (o521 P) nl nl) nl) (nd (o393 P) nl nl)) (nd (o201 P) (nd (o329 P) nl nl) (nd (o457 P) nl nl))) (nd (o105 P) (nd (o169 P) (nd (o297 P) nl nl) (nd (o425 P) nl nl)) (nd (o233 P) (nd (o361 P) nl nl) (nd (o489 P) nl nl)))) (nd (o57 P) (nd (o89 P) (nd (o153 P) (nd (o281 P) nl nl) (nd (o409 P) nl nl)) (nd (o217 P) (nd (o345 P) nl nl) (nd (o473 P) nl nl))) (nd (o121 P) (nd (o185 P) (nd (o313 P) nl nl) (nd (o441 P) nl nl)) (nd (o249 P) (nd (o377 P) nl nl) (nd (o505 P) nl nl)))))) (nd (o13 P) (nd (o21 P) (nd (o37 P) (nd (o69 P) (nd (o133 P) (nd (o261 P) (nd (o517 P) nl nl) nl) (nd (o389 P) nl nl)) (nd (o197 P) (nd (o325 P) nl nl) (nd (o453 P) nl nl))) (nd (o101 P) (nd (o165 P) (nd (o293 P) nl nl) (nd (o421 P) nl nl)) (nd (o229 P) (nd (o357 P) nl nl) (nd (o485 P) nl nl)))) (nd (o53 P) (nd (o85 P) (nd (o149 P) (nd (o277 P) nl nl) (nd (o405 P) nl nl)) (nd (o213 P) (nd (o341 P) nl nl) (nd (o469 P) nl nl))) (nd (o117 P) (nd (o181 P) (nd (o309 P) nl nl) (nd (o437 P) nl nl)) (nd (o245 P) (nd (o373 P) nl nl) (nd (o501 P) nl nl))))) (nd (o29 P) (nd (o45 P) (nd (o77 P) (nd (o141 P) (nd (o269 P) (nd (o525 P) nl nl) nl) (nd (o397 P) nl nl)) (nd (o205 P) (nd (o333 P) nl nl) (nd (o461 P) nl nl))) (nd (o109 P) (nd (o173 P) (nd (o301 P) nl nl) (nd (o429 P) nl nl)) (nd (o237 P) (nd (o365 P) nl nl) (nd (o493 P) nl nl)))) (nd (o61 P) (nd (o93 P) (nd (o157 P) (nd (o285 P) nl nl) (nd (o413 P) nl nl)) (nd (o221 P) (nd (o349 P) nl nl) (nd (o477 P) nl nl))) (nd (o125 P) (nd (o189 P) (nd (o317 P) nl nl) (nd (o445 P) nl nl)) (nd (o253 P) (nd (o381 P) nl nl) (nd (o509 P) nl nl)))))))) (nd (o2 P) (nd (o4 P) (nd (o8 P) (nd (o16 P) (nd (o32 P) (nd (o64 P) (nd (o128 P) (nd (o256 P) (nd (o512 P) nl nl) nl) (nd (o384 P) nl nl)) (nd (o192 P) (nd (o320 P) nl nl) (nd (o448 P) nl nl))) (nd (o96 P) (nd (o160 P) (nd (o288 P) nl nl) (nd (o416 P) nl nl)) (nd (o224 P) (nd (o352 P) nl nl) (nd (o480 P) nl nl)))) (nd (o48 P) (nd (o80 P) (nd (o144 P) (nd (o272 P) nl nl) (nd (o400 P) nl nl)) (nd (o208 P) (nd (o336 P) nl nl) (nd (o464 P) nl nl))) (nd (o112 P) (nd (o176 P) (nd (o304 P) nl nl) (nd (o432 P) nl nl)) (nd (o240 P) (nd (o368 P) nl nl) (nd (o496 P) nl nl))))) (nd (o24 P) (nd (o40 P) (nd (o72 P) (nd (o136 P) (nd (o264 P) (nd (o520 P) nl nl) nl) (nd (o392 P) nl nl)) (nd (o200 P) (nd (o328 P) nl nl) (nd (o456 P) nl nl))) (nd (o104 P) (nd (o168 P) (nd (o296 P) nl nl) (nd (o424 P) nl nl)) (nd (o232 P) (nd (o360 P) nl nl) (nd (o488 P) nl nl)))) (nd (o56 P) (nd (o88 P) (nd (o152 P) (nd (o280 P) nl nl) (nd (o408 P) nl nl)) (nd (o216 P) (nd (o344 P) nl nl) (nd (o472 P) nl nl))) (nd (o120 P) (nd (o184 P) (nd (o312 P) nl nl) (nd (o440 P) nl nl)) (nd (o248 P) (nd (o376 P) nl nl) (nd (o504 P) nl nl)))))) (nd (o12_p93 P) (nd (o20 P) (nd (o36 P) (nd (o68 P) (nd (o132 P) (nd (o260 P) (nd (o516 P) nl nl) nl) (nd (o388 P) nl nl)) (nd (o196 P) (nd (o324 P) nl nl) (nd (o452 P) nl nl))) (nd (o100 P) (nd (o164 P) (nd (o292 P) nl nl) (nd (o420 P) nl nl)) (nd (o228 P) (nd (o356 P) nl nl) (nd (o484 P) nl nl)))) (nd (o52 P) (nd (o84 P) (nd (o148 P) (nd (o276 P) nl nl) (nd (o404 P) nl nl)) (nd (o212 P) (nd (o340 P) nl nl) (nd (o468 P) nl nl))) (nd (o116 P) (nd (o180 P) (nd (o308 P) nl nl) (nd (o436 P) nl nl)) (nd (o244 P) (nd (o372 P) nl nl) (nd (o500 P) nl nl))))) (nd (o28 P) (nd (o44 P) (nd (o76 P) (nd (o140 P) (nd (o268 P) (nd (o524 P) nl nl) nl) (nd (o396 P) nl nl)) (nd (o204 P) (nd (o332 P) nl nl) (nd (o460 P) nl nl))) (nd (o108 P) (nd (o172 P) (nd (o300 P) nl nl) (nd (o428 P) nl nl)) (nd (o236 P) (nd (o364 P) nl nl) (nd (o492 P) nl nl)))) (nd (o60 P) (nd (o92 P) (nd (o156 P) (nd (o284 P) nl nl) (nd (o412 P) nl nl)) (nd (o220 P) (nd (o348 P) nl nl) (nd (o476 P) nl nl))) (nd (o124 P) (nd (o188 P) (nd (o316 P) nl nl) (nd (o444 P) nl nl)) (nd (o252 P) (nd (o380 P) nl nl) (nd (o508 P) nl nl))))))) (nd (o6 P) (nd (o10 P) (nd (o18 P) (nd (o34 P) (nd (o66 P) (nd (o130 P) (nd (o258 P) (nd (o514 P) nl nl) nl) (nd (o386 P) nl nl)) (nd (o194 P) (nd (o322 P) nl nl) (nd (o450 P) nl nl))) (nd (o98 P) (nd (o162 P) (nd (o290 P) nl nl) (nd (o418 P) nl nl)) (nd (o226 P) (nd (o354 P) nl nl) (nd (o482 P) nl nl)))) (nd (o50 P) (nd (o82 P) (nd (o146 P) (nd (o274 P) nl nl) (nd (o402 P) nl nl)) (nd (o210 P) (nd (o338 P) nl nl) (nd (o466 P) nl nl))) (nd (o114 P) (nd (o178 P) (nd (o306 P) nl nl) (nd (o434 P) nl nl)) (nd (o242 P) (nd (o370 P) nl nl) (nd (o498 P) nl nl))))) (nd (o26 P) (nd (o42 P) (nd (o74 P) (nd (o138 P) (nd (o266 P) (nd (o522 P) nl nl) nl) (nd (o394 P) nl nl)) (nd (o202 P) (nd (o330 P) nl nl) (nd (o458 P) nl nl))) (nd (o106 P) (nd (o170 P) (nd (o298 P) nl nl) (nd (o426 P) nl nl)) (nd (o234 P) (nd (o362 P) nl nl) (nd (o490 P) nl nl)))) (nd (o58 P) (nd (o90 P) (nd (o154 P) (nd (o282 P) nl nl) (nd (o410 P) nl nl)) (nd (o218 P) (nd (o346 P) nl nl) (nd (o474 P) nl nl))) (nd (o122 P) (nd (o186 P) (nd (o314 P) nl nl) (nd (o442 P) nl nl)) (nd (o250 P) (nd (o378 P) nl nl) (nd (o506 P) nl nl)))))) (nd (o14 P) (nd (o22 P) (nd (o38 P) (nd (o70 P) (nd (o134 P) (nd (o262 P) (nd (o518 P) nl nl) nl) (nd (o390 P) nl nl)) (nd (o198 P) (nd (o326 P) nl nl) (nd (o454 P) nl nl))) (nd (o102 P) (nd (o166 P) (nd (o294 P) nl nl) (nd (o422 P) nl nl)) (nd (o230 P) (nd (o358 P) nl nl) (nd (o486 P) nl nl)))) (nd (o54 P) (nd (o86 P) (nd (o150 P) (nd (o278 P) nl nl) (nd (o406 P) nl nl)) (nd (o214 P) (nd (o342 P) nl nl) (nd (o470 P) nl nl))) (nd (o118 P) (nd (o182 P) (nd (o310 P) nl nl) (nd (o438 P) nl nl)) (nd (o246 P) (nd (o374 P) nl nl) (nd (o502 P) nl nl))))) (nd (o30 P) (nd (o46 P) (nd (o78 P) (nd (o142 P) (nd (o270 P) nl nl) (nd (o398 P) nl nl)) (nd (o206 P) (nd (o334 P) nl nl) (nd (o462 P) nl nl))) (nd (o110 P) (nd (o174 P) (nd (o302 P) nl nl) (nd (o430 P) nl nl)) (nd (o238 P) (nd (o366 P) nl nl) (nd (o494 P) nl nl)))) (nd (o62 P) (nd (o94 P) (nd (o158 P) (nd (o286 P) nl nl) (nd (o414 P) nl nl)) (nd (o222 P) (nd (o350 P) nl nl) (nd (o478 P) nl nl))) (nd (o126 P) (nd (o190 P) (nd (o318 P) nl nl) (nd (o446 P) nl nl)) (nd (o254 P) (nd (o382 P) nl nl) (nd (o510 P) nl nl)))))))))
noncomputable def t_p94 (P : Params) : BT := (nd (o0 P) (nd (o1 P) (nd (o3 P) (nd (o7 P) (nd (o15 P) (nd (o31 P) (nd (o63 P) (nd (o127 P) (nd (o255 P) (nd (o511 P) nl nl) nl) (nd (o383 P) nl nl)) (nd (o191 P) (nd (o319 P) nl nl) (nd (o447 P) nl nl))) (nd (o95 P) (nd (o159 P) (nd (o287 P) nl nl) (nd (o415 P) nl nl)) (nd (o223 P) (nd (o351 P) nl nl) (nd (o479 P) nl nl)))) (nd (o47 P) (nd (o79 P) (nd (o143 P) (nd (o271 P) (nd (o527 P) nl nl) nl) (nd (o399 P) nl nl)) (nd (o207 P) (nd (o335 P) nl nl) (nd (o463 P) nl nl))) (nd (o111 P) (nd (o175 P) (nd (o303 P) nl nl) (nd (o431 P) nl nl)) (nd (o239 P) (nd (o367 P) nl nl) (nd (o495 P) nl nl))))) (nd (o23 P) (nd (o39 P) (nd (o71 P) (nd (o135 P) (nd (o263 P) (nd (o519 P) nl nl) nl) (nd (o391 P) nl nl)) (nd (o199 P) (nd (o327 P) nl nl) (nd (o455 P) nl nl))) (nd (o103 P) (nd (o167 P) (nd (o295 P) nl nl) (nd (o423 P) nl nl)) (nd (o231 P) (nd (o359 P) nl nl) (nd (o487 P) nl nl)))) (nd (o55 P) (nd (o87 P) (nd (o151 P) (nd (o279 P) nl nl) (nd (o407 P) nl nl)) (nd (o215 P) (nd (o343 P) nl nl) (nd (o471 P) nl nl))) (nd (o119 P) (nd (o183 P) (nd (o311 P) nl nl) (nd (o439 P) nl nl)) (nd (o247 P) (nd (o375 P) nl nl) (nd (o503 P) nl nl)))))) (nd (o11 P) (nd (o19 P) (nd (o35 P) (nd (o67 P) (nd (o131 P) (nd (o259 P) (nd (o515 P) nl nl) nl) (nd (o387 P) nl nl)) (nd (o195 P) (nd (o323 P) nl nl) (nd (o451 P) nl nl))) (nd (o99 P) (nd (o163 P) (nd (o291 P) nl nl) (nd (o419 P) nl nl)) (nd (o227 P) (nd (o355 P) nl nl) (nd (o483 P) nl nl)))) (nd (o51 P) (nd (o83 P) (nd (o147 P) (nd (o275 P) (nd (o531 P) nl nl) nl) (nd (o403 P) nl nl)) (nd (o211 P) (nd (o339 P) nl nl) (nd (o467 P) nl nl))) (nd (o115 P) (nd (o179 P) (nd (o307 P) nl nl) (nd (o435 P) nl nl)) (nd (o243 P) (nd (o371 P) nl nl) (nd (o499 P) nl nl))))) (nd (o27 P) (nd (o43 P) (nd (o75 P) (nd (o139 P) (nd (o267 P) (nd (o523 P) nl nl) nl) (nd (o395 P) nl nl)) (nd (o203 P) (nd (o331 P) nl nl) (nd (o459 P) nl nl))) (nd (o107 P) (nd (o171 P) (nd (o299 P) nl nl) (nd (o427 P) nl nl)) (nd (o235 P) (nd (o363 P) nl nl) (nd (o491 P) nl nl)))) (nd (o59 P) (nd (o91 P) (nd (o155 P) (nd (o283 P) nl nl) (nd (o411 P) nl nl)) (nd (o219 P) (nd (o347 P) nl nl) (nd (o475 P) nl nl))) (nd (o123 P) (nd (o187 P) (nd (o315 P) nl nl) (nd (o443 P) nl nl)) (nd (o251 P) (nd (o379 P) nl nl) (nd (o507 P) nl nl))))))) (nd (o5 P) (nd (o9 P) (nd (o17 P) (nd (o33 P) (nd (o65 P) (nd (o129 P) (nd (o257 P) (nd (o513 P) nl nl) nl) (nd (o385 P) nl nl)) (nd (o193 P) (nd (o321 P) nl nl) (nd (o449 P) nl nl))) (nd (o97 P) (nd (o161 P) (nd (o289 P) nl nl) (nd (o417 P) nl nl)) (nd (o225 P) (nd (o353 P) nl nl) (nd (o481 P) nl nl)))) (nd (o49 P) (nd (o81 P) (nd (o145 P) (nd (o273 P) (nd (o529 P) nl nl) nl) (nd (o401 P) nl nl)) (nd (o209 P) (nd (o337 P) nl nl) (nd (o465 P) nl nl))) (nd (o113 P) (nd (o177 P) (nd (o305 P) nl nl) (nd (o433 P) nl nl)) (nd (o241 P) (nd (o369 P) nl nl) (nd (o497 P) nl nl))))) (nd (o25 P) (nd (o41 P) (nd (o73 P) (nd (o137 P) (nd (o265 P) (nd (o521 P) nl nl) nl) (nd (o393 P) nl nl)) (nd (o201 P) (nd (o329 P) nl nl) (nd (o457 P) nl nl))) (nd (o105 P) (nd (o169 P) (nd (o297 P) nl nl) (nd (o425 P) nl nl)) (nd (o233 P) (nd (o361 P) nl nl) (nd (o489 P) nl nl)))) (nd (o57 P) (nd (o89 P) (nd (o153 P) (nd (o281 P) nl nl) (nd (o409 P) nl nl)) (nd (o217 P) (nd (o345 P) nl nl) (nd (o473 P) nl nl))) (nd (o121 P) (nd (o185 P) (nd (o313 P) nl nl) (nd (o441 P) nl nl)) (nd (o249 P) (nd (o377 P) nl nl) (nd (o505 P) nl nl)))))) (nd (o13 P) (nd (o21 P) (nd (o37 P) (nd (o69 P) (nd (o133 P) (nd (o261 P) (nd (o517 P) nl nl) nl) (nd (o389 P) nl nl)) (nd (o197 P) (nd (o325 P) nl nl) (nd (o453 P) nl nl))) (nd (o101 P) (nd (o165 P) (nd (o293 P) nl nl) (nd (o421 P) nl nl)) (nd (o229 P) (nd (o357 P) nl nl) (nd (o485 P) nl nl)))) (nd (o53 P) (nd (o85 P) (nd (o149 P) (nd (o277 P) nl nl) (nd (o405 P) nl nl)) (nd (o213 P) (nd (o341 P) nl nl) (nd (o469 P) nl nl))) (nd (o117 P) (nd (o181 P) (nd (o309 P) nl nl) (nd (o437 P) nl nl)) (nd (o245 P) (nd (o373 P) nl nl) (nd (o501 P) nl nl))))) (nd (o29 P) (nd (o45 P) (nd (o77 P) (nd (o141 P) (nd (o269 P) (nd (o525 P) nl nl) nl) (nd (o397 P) nl nl)) (nd (o205 P) (nd (o333 P) nl nl) (nd (o461 P) nl nl))) (nd (o109 P) (nd (o173 P) (nd (o301 P) nl nl) (nd (o429 P) nl nl)) (nd (o237 P) (nd (o365 P) nl nl) (nd (o493 P) nl nl)))) (nd (o61 P) (nd (o93 P) (nd (o157 P) (nd (o285 P) nl nl) (nd (o413 P) nl nl)) (nd (o221 P) (nd (o349 P) nl nl) (nd (o477 P) nl nl))) (nd (o125 P) (nd (o189 P) (nd (o317 P) nl nl) (nd (o445 P) nl nl)) (nd (o253 P) (nd (o381 P) nl nl) (nd (o509 P) nl nl)))))))) (nd (o2 P) (nd (o4 P) (nd (o8 P) (nd (o16 P) (nd (o32 P) (nd (o64 P) (nd (o128 P) (nd (o256 P) (nd (o512 P) nl nl) nl) (nd (o384 P) nl nl)) (nd (o192 P) (nd (o320 P) nl nl) (nd (o448 P) nl nl))) (nd (o96 P) (nd (o160 P) (nd (o288 P) nl nl) (nd (o416 P) nl nl)) (nd (o224 P) (nd (o352 P) nl nl) (nd (o480 P) nl nl)))) (nd (o48 P) (nd (o80 P) (nd (o144 P) (nd (o272 P) (nd (o528 P) nl nl) nl) (nd (o400 P) nl nl)) (nd (o208 P) (nd (o336 P) nl nl) (nd (o464 P) nl nl))) (nd (o112 P) (nd (o176 P) (nd (o304 P) nl nl) (nd (o432 P) nl nl)) (nd (o240 P) (nd (o368 P) nl nl) (nd (o496 P) nl nl))))) (nd (o24 P) (nd (o40 P) (nd (o72 P) (nd (o136 P) (nd (o264 P) (nd (o520 P) nl nl) nl) (nd (o392 P) nl nl)) (nd (o200 P) (nd (o328 P) nl nl) (nd (o456 P) nl nl))) (nd (o104 P) (nd (o168 P) (nd (o296 P) nl nl) (nd (o424 P) nl nl)) (nd (o232 P) (nd (o360 P) nl nl) (nd (o488 P) nl nl)))) (nd (o56 P) (nd (o88 P) (nd (o152 P) (nd (o280 P) nl nl) (nd (o408 P) nl nl)) (nd (o216 P) (nd (o344 P) nl nl) (nd (o472 P) nl nl))) (nd (o120 P) (nd (o184 P) (nd (o312 P) nl nl) (nd (o440 P) nl nl)) (nd (o248 P) (nd (o376 P) nl nl) (nd (o504 P) nl nl)))))) (nd (o12 P) (nd (o20 P) (nd (o36 P) (nd (o68 P) (nd (o132 P) (nd (o260 P) (nd (o516 P) nl nl) nl) (nd (o388 P) nl nl)) (nd (o196 P) (nd (o324 P) nl nl) (nd (o452 P) nl nl))) (nd (o100 P) (nd (o164 P) (nd (o292 P) nl nl) (nd (o420 P) nl nl)) (nd (o228 P) (nd (o356 P) nl nl) (nd (o484 P) nl nl)))) (nd (o52 P) (nd (o84 P) (nd (o148 P) (nd (o276 P) (nd (o532 P) nl nl) nl) (nd (o404 P) nl nl)) (nd (o212 P) (nd (o340 P) nl nl) (nd (o468 P) nl nl))) (nd (o116 P) (nd (o180 P) (nd (o308 P) nl nl) (nd (o436 P) nl nl)) (nd (o244 P) (nd (o372 P) nl nl) (nd (o500 P) nl nl))))) (nd (o28 P) (nd (o44 P) (nd (o76 P) (nd (o140 P) (nd (o268 P) (nd (o524 P) nl nl) nl) (nd (o396 P) nl nl)) (nd (o204 P) (nd (o332 P) nl nl) (nd (o460 P) nl nl))) (nd (o108 P) (nd (o172 P) (nd (o300 P) nl nl) (nd (o428 P) nl nl)) (nd (o236 P) (nd (o364 P) nl nl) (nd (o492 P) nl nl)))) (nd (o60 P) (nd (o92 P) (nd (o156 P) (nd (o284 P) nl nl) (nd (o412 P) nl nl)) (nd (o220 P) (nd (o348 P) nl nl) (nd (o476 P) nl nl))) (nd (o124 P) (nd (o188 P) (nd (o316 P) nl nl) (nd (o444 P) nl nl)) (nd (o252 P) (nd (o380 P) nl nl) (nd (o508 P) nl nl))))))) (nd (o6 P) (nd (o10 P) (nd (o18 P) (nd (o34 P) (nd (o66 P) (nd (o130 P) (nd (o258 P) (nd (o514 P) nl nl) nl) (nd (o386 P) nl nl)) (nd (o194 P) (nd (o322 P) nl nl) (nd (o450 P) nl nl))) (nd (o98 P) (nd (o162 P) (nd (o290 P) nl nl) (nd (o418 P) nl nl)) (nd (o226 P) (nd (o354 P) nl nl) (nd (o482 P) nl nl)))) (nd (o50 P) (nd (o82 P) (nd (o146 P) (nd (o274 P) (nd (o530 P) nl nl) nl) (nd (o402 P) nl nl)) (nd (o210 P) (nd (o338 P) nl nl) (nd (o466 P) nl nl))) (nd (o114 P) (nd (o178 P) (nd (o306 P) nl nl) (nd (o434 P) nl nl)) (nd (o242 P) (nd (o370 P) nl nl) (nd (o498 P) nl nl))))) (nd (o26 P) (nd (o42 P) (nd (o74 P) (nd (o138 P) (nd (o266 P) (nd (o522 P) nl nl) nl) (nd (o394 P) nl nl)) (nd (o202 P) (nd (o330 P) nl nl) (nd (o458 P) nl nl))) (nd (o106 P) (nd (o170 P) (nd (o298 P) nl nl) (nd (o426 P) nl nl)) (nd (o234 P) (nd (o362 P) nl nl) (nd (o490 P) nl nl)))) (nd (o58 P) (nd (o90 P) (nd (o154 P) (nd (o282 P) nl nl) (nd (o410 P) nl nl)) (nd (o218 P) (nd (o346 P) nl nl) (nd (o474 P) nl nl))) (nd (o122 P) (nd (o186 P) (nd (o314 P) nl nl) (nd (o442 P) nl nl)) (nd (o250 P) (nd (o378 P) nl nl) (nd (o506 P) nl nl)))))) (nd (o14 P) (nd (o22 P) (nd (o38 P) (nd (o70 P) (nd (o134 P) (nd (o262 P) (nd (o518 P) nl nl) nl) (nd (o390 P) nl nl)) (nd (o198 P) (nd (o326 P) nl nl) (nd (o454 P) nl nl))) (nd (o102 P) (nd (o166 P) (nd (o294 P) nl nl) (nd (o422 P) nl nl)) (nd (o230 P) (nd (o358 P) nl nl) (nd (o486 P) nl nl)))) (nd (o54 P) (nd (o86 P) (nd (o150 P) (nd (o278 P) nl nl) (nd (o406 P) nl nl)) (nd (o214 P) (nd (o342 P) nl nl) (nd (o470 P) nl nl))) (nd (o118 P) (nd (o182 P) (nd (o310 P) nl nl) (nd (o438 P) nl nl)) (nd (o246 P) (nd (o374 P) nl nl) (nd (o502 P) nl nl))))) (nd (o30 P) (nd (o46 P) (nd (o78 P) (nd (o142 P) (nd (o270 P) (nd (o526 P) nl nl) nl) (nd (o398 P) nl nl)) (nd (o206 P) (nd (o334 P) nl nl) (nd (o462 P) nl nl))) (nd (o110 P) (nd (o174 P) (nd (o302 P) nl nl) (nd (o430 P) nl nl)) (nd (o238 P) (nd (o366 P) nl nl) (nd (o494 P) nl nl)))) (nd (o62 P) (nd (o94 P) (nd (o158 P) (nd (o286 P) nl nl) (nd (o414 P) nl nl)) (nd (o222 P) (nd (o350 P) nl nl) (nd (o478 P) nl nl))) (nd (o126 P) (nd (o190 P) (nd (o318 P) nl nl) (nd (o446 P) nl nl)) (nd (o254 P) (nd (o382 P) nl nl) (nd (o510 P) nl nl)))))))))
noncomputable def h_pre (P : Params) : Heap := ⟨⟨[o0 P, o1 P, o2_pre P, o3_pre P, o4 P, o5 P, o6 P, o7 P, o8 P, o9 P, o10 P, o11 P, o12_pre P, o13 P, o14 P]⟩, {}⟩
noncomputable def h_fin (P : Params) : Heap := ⟨⟨[o0 P, o1 P, o2 P, o3 P, o4 P, o5 P, o6 P, o7 P, o8 P, o9 P, o10 P, o11 P, o12 P, o13 P, o14 P, o15 P, o16 P, o17 P, o18 P, o19 P, o20 P, o21 P, o22 P, o23 P, o24 P, o25 P, o26 P, o27 P, o28 P, o29 P, o30 P, o31 P, o32 P, o33 P, o34 P, o35 P, o36 P, o37 P, o38 P, o39 P, o40 P, o41 P, o42 P, o43 P, o44 P, o45 P, o46 P, o47 P, o48 P, o49 P, o50 P, o51 P, o52 P, o53 P, o54 P, o55 P, o56 P, o57 P, o58 P, o59 P, o60 P, o61 P, o62 P, o63 P, o64 P, o65 P, o66 P, o67 P, o68 P, o69 P, o70 P, o71 P, o72 P, o73 P, o74 P, o75 P, o76 P, o77 P, o78 P, o79 P, o80 P, o81 P, o82 P, o83 P, o84 P, o85 P, o86 P, o87 P, o88 P, o89 P, o90 P, o91 P, o92 P, o93 P, o94 P, o95 P, o96 P, o97 P, o98 P, o99 P, o100 P, o101 P, o102 P, o103 P, o104 P, o105 P, o106 P, o107 P, o108 P, o109 P, o110 P, o111 P, o112 P, o113 P, o114 P, o115 P, o116 P, o117 P, o118 P, o119 P, o120 P, o121 P, o122 P, o123 P, o124 P, o125 P, o126 P, o127 P, o128 P, o129 P, o130 P, o131 P, o132 P, o133 P, o134 P, o135 P, o136 P, o137 P, o138 P, o139 P, o140 P, o141 P, o142 P, o143 P, o144 P, o145 P, o146 P, o147 P, o148 P, o149 P, o150 P, o151 P, o152 P, o153 P, o154 P, o155 P, o156 P, o157 P, o158 P, o159 P, o160 P, o161 P, o162 P, o163 P, o164 P, o165 P, o166 P, o167 P, o168 P, o169 P, o170 P, o171 P, o172 P, o173 P, o174 P, o175 P, o176 P, o177 P, o178 P, o179 P, o180 P, o181 P, o182 P, o183 P, o184 P, o185 P, o186 P, o187 P, o188 P, o189 P, o190 P, o191 P, o192 P, o193 P, o194 P, o195 P, o196 P, o197 P, o198 P, o199 P, o200 P, o201 P, o202 P, o203 P, o204 P, o205 P, o206 P, o207 P, o208 P, o209 P, o210 P, o211 P, o212 P, o213 P, o214 P, o215 P, o216 P, o217 P, o218 P, o219 P, o220 P, o221 P, o222 P, o223 P, o224 P, o225 P, o226 P, o227 P, o228 P, o229 P, o230 P, o231 P, o232 P, o233 P, o234 P, o235 P, o236 P, o237 P, o238 P, o239 P, o240 P, o241 P, o242 P, o243 P, o244 P, o245 P, o246 P, o247 P, o248 P, o249 P, o250 P, o251 P, o252 P, o253 P, o254 P, o255 P, o256 P, o257 P, o258 P, o259 P, o260 P, o261 P, o262 P, o263 P, o264 P, o265 P, o266 P, o267 P, o268 P, o269 P, o270 P, o271 P, o272 P, o273 P, o274 P, o275 P, o276 P, o277 P, o278 P, o279 P, o280 P, o281 P, o282 P, o283 P, o284 P, o285 P, o286 P, o287 P, o288 P, o289 P, o290 P, o291 P, o292 P, o293 P, o294 P, o295 P, o296 P, o297 P, o298 P, o299 P, o300 P, o301 P, o302 P, o303 P, o304 P, o305 P, o306 P, o307 P, o308 P, o309 P, o310 P, o311 P, o312 P, o313 P, o314 P, o315 P, o316 P, o317 P, o318 P, o319 P, o320 P, o321 P, o322 P, o323 P, o324 P, o325 P, o326 P, o327 P, o328 P, o329 P, o330 P, o331 P, o332 P, o333 P, o334 P, o335 P, o336 P, o337 P, o338 P, o339 P, o340 P, o341 P, o342 P, o343 P, o344 P, o345 P, o346 P, o347 P, o348 P, o349 P, o350 P, o351 P, o352 P, o353 P, o354 P, o355 P, o356 P, o357 P, o358 P, o359 P, o360 P, o361 P, o362 P, o363 P, o364 P, o365 P, o366 P, o367 P, o368 P, o369 P, o370 P, o371 P, o372 P, o373 P, o374 P, o375 P, o376 P, o377 P, o378 P, o379 P, o380 P, o381 P, o382 P, o383 P, o384 P, o385 P, o386 P, o387 P, o388 P, o389 P, o390 P, o391 P, o392 P, o393 P, o394 P, o395 P, o396 P, o397 P, o398 P, o399 P, o400 P, o401 P, o402 P, o403 P, o404 P, o405 P, o406 P, o407 P, o408 P, o409 P, o410 P, o411 P, o412 P, o413 P, o414 P, o415 P, o416 P, o417 P, o418 P, o419 P, o420 P, o421 P, o422 P, o423 P, o424 P, o425 P, o426 P, o427 P, o428 P, o429 P, o430 P, o431 P, o432 P, o433 P, o434 P, o435 P, o436 P, o437 P, o438 P, o439 P, o440 P, o441 P, o442 P, o443 P, o444 P, o445 P, o446 P, o447 P, o448 P, o449 P, o450 P, o451 P, o452 P, o453 P, o454 P, o455 P, o456 P, o457 P, o458 P, o459 P, o460 P, o461 P, o462 P, o463 P, o464 P, o465 P, o466 P, o467 P, o468 P, o469 P, o470 P, o471 P, o472 P, o473 P, o474 P, o475 P, o476 P, o477 P, o478 P, o479 P, o480 P, o481 P, o482 P, o483 P, o484 P, o485 P, o486 P, o487 P, o488 P, o489 P, o490 P, o491 P, o492 P, o493 P, o494 P, o495 P, o496 P, o497 P, o498 P, o499 P, o500 P, o501 P, o502 P, o503 P, o504 P, o505 P, o506 P, o507 P, o508 P, o509 P, o510 P, o511 P, o512 P, o513 P, o514 P, o515 P, o516 P, o517 P, o518 P, o519 P, o520 P, o521 P, o522 P, o523 P, o524 P, o525 P, o526 P, o527 P, o528 P, o529 P, o530 P, o531 P, o532 P]⟩, {}⟩
noncomputable def envT : Env := { scope := prg.main.scope, locals := mainNs, globals := mainNs, cells := [], code := .ref 13, frame := some 14 }
noncomputable abbrev annT : Option Value := some (.ref 6)
noncomputable abbrev cdT : Code := .body (behindTheImports prg) envT
noncomputable abbrev bkT : List Frame := [topFrame ⟨0, 0, 0, 0⟩]
noncomputable def sTT (t : BT) (n k : Nat) (os : OsState) : SharedT := { tree := t, n := n, life := {}, gens := ⟨[]⟩, drawn := {}, toks := k, os := os }
noncomputable def sHH (h : Heap) (k : Nat) (os : OsState) : Shared := { heap := h, gens := ⟨[]⟩, drawn := {}, toks := k, os := os }
theorem l_pre (w : World) (os : OsState) : topGo treeTable prg w 11 annT 12 { heap := boot_heap w.params, gens := ⟨[]⟩, drawn := boot_drawn, toks := boot_toks, os := os } (topStub prg) = some (sHH (h_pre w.params) 187 os, { cur := denote treeTable cdT, code := cdT, pos := ⟨0, 0, 0, 0⟩, stack := bkT }) := by kernel_rfl
theorem l_block (w : World) (os : OsState) : segRun treeTable prg w 11 annT 1 1 (sHH (h_pre w.params) 187 os) (blockOf (behindTheImports prg) envT cdT ⟨0, 0, 0, 0⟩ bkT) = some (.next, (sTT (t_pre w.params) 15 187 os).abs, cdT, ⟨0, 0, 0, 0⟩) := by kernel_rfl
noncomputable def sts_0 : List Stmt := ((behindTheImports prg).drop 0).take 10
theorem l_0 (w : World) (os : OsState) : segRunT treeTable prg w 11 annT 1 386 (sTT (t_pre w.params) 15 187 os) (piecesOf sts_0 envT cdT ⟨0, 0, 0, 0⟩ bkT) = some (.next, sTT (t_p9 w.params) 58 261 os, cdT, ⟨37, 0, 37, 9⟩) := by kernel_rfl
noncomputable def sts_1 : List Stmt := ((behindTheImports prg).drop 10).take 14
theorem l_1 (w : World) (os : OsState) : segRunT treeTable prg w 11 annT 1 396 (sTT (t_p9 w.params) 58 261 os) (piecesOf sts_1 envT cdT ⟨37, 0, 37, 9⟩ bkT) = some (.next, sTT (t_p23 w.params) 147 365 os, cdT, ⟨75, 0, 76, 68⟩) := by kernel_rfl
noncomputable def sts_2 : List Stmt := ((behindTheImports prg).drop 24).take 13
theorem l_2 (w : World) (os : OsState) : segRunT treeTable prg w 11 annT 1 387 (sTT (t_p23 w.params) 147 365 os) (piecesOf sts_2 envT cdT ⟨75, 0, 76, 68⟩ bkT) = some (.next, sTT (t_p36 w.params) 230 473 os, cdT, ⟨134, 0, 140, 57⟩) := by kernel_rfl
noncomputable def sts_3 : List Stmt := ((behindTheImports prg).drop 37).take 14
theorem l_3 (w : World) (os : OsState) : segRunT treeTable prg w 11 annT 1 375 (sTT (t_p36 w.params) 230 473 os) (piecesOf sts_3 envT cdT ⟨134, 0, 140, 57⟩ bkT) = some (.next, sTT (t_p50 w.params) 305 586 os, cdT, ⟨202, 0, 219, 51⟩) := by kernel_rfl
noncomputable def sts_4 : List Stmt := ((behindTheImports prg).drop 51).take 15
theorem l_4 (w : World) (os : OsState) : segRunT treeTable prg w 11 annT 1 378 (sTT (t_p50 w.params) 305 586 os) (piecesOf sts_4 envT cdT ⟨202, 0, 219, 51⟩ bkT) = some (.next, sTT (t_p65 w.params) 378 693 os, cdT, ⟨305, 0, 310, 55⟩) := by kernel_rfl
noncomputable def sts_5 : List Stmt := ((behindTheImports prg).drop 66).take 15
theorem l_5 (w : World) (os : OsState) : segRunT treeTable prg w 11 annT 1 385 (sTT (t_p65 w.params) 378 693 os) (piecesOf sts_5 envT cdT ⟨305, 0, 310, 55⟩ bkT) = some (.next, sTT (t_p80 w.params) 450 811 os, cdT, ⟨429, 0, 438, 12⟩) := by kernel_rfl
noncomputable def sts_6 : List Stmt := ((behindTheImports prg).drop 81).take 13
theorem l_6 (w : World) (os : OsState) : segRunT treeTable prg w 11 annT 1 378 (sTT (t_p80 w.params) 450 811 os) (piecesOf sts_6 envT cdT ⟨429, 0, 438, 12⟩ bkT) = some (.next, sTT (t_p93 w.params) 526 932 os, cdT, ⟨495, 0, 499, 40⟩) := by kernel_rfl
noncomputable def sts_7 : List Stmt := ((behindTheImports prg).drop 94).take 1
theorem l_7 (w : World) (os : OsState) : segRunT treeTable prg w 11 annT 1 35 (sTT (t_p93 w.params) 526 932 os) (piecesOf sts_7 envT cdT ⟨495, 0, 499, 40⟩ bkT) = some (.next, sTT (t_p94 w.params) 533 944 os, cdT, ⟨500, 0, 510, 42⟩) := by kernel_rfl
theorem l_fin (w : World) (os : OsState) : topRun treeTable prg w 11 annT 2 (sTT (t_p94 w.params) 533 944 os).abs { cur := doneF .next, code := cdT, pos := ⟨500, 0, 510, 42⟩, stack := bkT } = some (sHH (h_fin w.params) 944 os) := by kernel_rfl
theorem b_all : behindTheImports prg = (sts_0 ++ (sts_1 ++ (sts_2 ++ (sts_3 ++ (sts_4 ++ (sts_5 ++ (sts_6 ++ (sts_7 ++ ([] : List Stmt))))))))) := by kernel_rfl
theorem chain (w : World) (os : OsState) : topRun treeTable prg w 11 annT (386 + (396 + (387 + (375 + (378 + (385 + (378 + (35 + 2)))))))) (sTT (t_pre w.params) 15 187 os).abs (restOf (sts_0 ++ (sts_1 ++ (sts_2 ++ (sts_3 ++ (sts_4 ++ (sts_5 ++ (sts_6 ++ (sts_7 ++ ([] : List Stmt))))))))) envT cdT ⟨0, 0, 0, 0⟩ bkT) = some (sHH (h_fin w.params) 944 os) :=
  piece_app (l := sts_0) (rest := (sts_1 ++ (sts_2 ++ (sts_3 ++ (sts_4 ++ (sts_5 ++ (sts_6 ++ (sts_7 ++ ([] : List Stmt))))))))) (segRun_of (l_0 w os)) (piece_app (l := sts_1) (rest := (sts_2 ++ (sts_3 ++ (sts_4 ++ (sts_5 ++ (sts_6 ++ (sts_7 ++ ([] : List Stmt)))))))) (segRun_of (l_1 w os)) (piece_app (l := sts_2) (rest := (sts_3 ++ (sts_4 ++ (sts_5 ++ (sts_6 ++ (sts_7 ++ ([] : List Stmt))))))) (segRun_of (l_2 w os)) (piece_app (l := sts_3) (rest := (sts_4 ++ (sts_5 ++ (sts_6 ++ (sts_7 ++ ([] : List Stmt)))))) (segRun_of (l_3 w os)) (piece_app (l := sts_4) (rest := (sts_5 ++ (sts_6 ++ (sts_7 ++ ([] : List Stmt))))) (segRun_of (l_4 w os)) (piece_app (l := sts_5) (rest := (sts_6 ++ (sts_7 ++ ([] : List Stmt)))) (segRun_of (l_5 w os)) (piece_app (l := sts_6) (rest := (sts_7 ++ ([] : List Stmt))) (segRun_of (l_6 w os)) (piece_app (l := sts_7) (rest := ([] : List Stmt)) (segRun_of (l_7 w os)) (l_fin w os))))))))
theorem run_all (w : World) (os : OsState) : topRun treeTable prg w 11 annT (12 + (1 + (386 + (396 + (387 + (375 + (378 + (385 + (378 + (35 + 2)))))))))) { heap := boot_heap w.params, gens := ⟨[]⟩, drawn := boot_drawn, toks := boot_toks, os := os } (topStub prg) = some (sHH (h_fin w.params) 944 os) :=
  go_top (l_pre w os) (piece_block (l_block w os) (by
    have h := chain w os
    rw [← b_all] at h
    exact h))
end
end Mine

open PySem PySem.W PySem.Spec PySem.Calls PyProof.Rows
set_option Elab.async false
set_option maxRecDepth 100000
set_option linter.unusedVariables false
namespace Mine
section
noncomputable def qv : Program := { prg with main := { prg.main with body := ([1, 3, 4, 5, 7, 8, 9, 10, 11, 12, 13, 14, 15, 16, 17, 18, 19, 21, 22, 23, 24, 25, 26, 27, 28, 29, 30, 31, 32, 33, 34, 35, 36, 37, 38, 40, 41, 42, 43, 44, 45, 46, 48, 49, 50, 51, 52, 53, 54, 56, 57, 58, 59, 60, 61, 62, 63, 64, 65, 66, 67, 68, 69, 70, 71, 72, 74, 75, 76, 77, 78, 79, 80, 81, 82, 84, 85, 86, 87, 88, 89, 90, 91, 92, 93, 94] : List Nat).filterMap fun i => (prg.main.body[i]? : Option PySem.Stmt) } }
noncomputable def KP (P : Params) : Frag := [(2, o2 P), (3, o3 P), (27, o27 P), (28, o28 P), (29, o29 P), (30, o30 P), (31, o31 P), (40, o40 P), (41, o41 P), (47, o47 P), (48, o48 P), (54, o54 P), (55, o55 P), (56, o56 P), (57, o57 P), (63, o63 P), (64, o64 P), (70, o70 P), (71, o71 P), (77, o77 P), (78, o78 P), (84, o84 P), (85, o85 P), (91, o91 P), (92, o92 P), (98, o98 P), (99, o99 P), (105, o105 P), (106, o106 P), (112, o112 P), (113, o113 P), (119, o119 P), (120, o120 P), (126, o126 P), (127, o127 P), (133, o133 P), (134, o134 P), (140, o140 P), (141, o141 P), (145, o145 P), (146, o146 P), (150, o150 P), (151, o151 P), (157, o157 P), (158, o158 P), (162, o162 P), (163, o163 P), (169, o169 P), (170, o170 P), (174, o174 P), (175, o175 P), (179, o179 P), (180, o180 P), (186, o186 P), (187, o187 P), (193, o193 P), (194, o194 P), (200, o200 P), (201, o201 P), (207, o207 P), (208, o208 P), (214, o214 P), (215, o215 P), (221, o221 P), (222, o222 P), (228, o228 P), (229, o229 P), (235, o235 P), (236, o236 P), (242, o242 P), (243, o243 P), (249, o249 P), (250, o250 P), (254, o254 P), (255, o255 P), (261, o261 P), (262, o262 P), (268, o268 P), (269, o269 P), (275, o275 P), (276, o276 P), (282, o282 P), (283, o283 P), (289, o289 P), (290, o290 P), (296, o296 P), (297, o297 P), (303, o303 P), (304, o304 P), (310, o310 P), (311, o311 P), (317, o317 P), (318, o318 P), (324, o324 P), (325, o325 P), (329, o329 P), (330, o330 P), (332, o332 P), (338, o338 P), (339, o339 P), (345, o345 P), (346, o346 P), (350, o350 P), (351, o351 P), (357, o357 P), (358, o358 P), (364, o364 P), (365, o365 P), (369, o369 P), (370, o370 P), (376, o376 P), (377, o377 P), (383, o383 P), (384, o384 P), (388, o388 P), (389, o389 P), (395, o395 P), (396, o396 P), (400, o400 P), (401, o401 P), (407, o407 P), (408, o408 P), (414, o414 P), (415, o415 P), (421, o421 P), (422, o422 P), (423, o423 P), (429, o429 P), (430, o430 P), (436, o436 P), (437, o437 P), (443, o443 P), (444, o444 P), (448, o448 P), (449, o449 P), (455, o455 P), (456, o456 P), (462, o462 P), (463, o463 P), (464, o464 P), (470, o470 P), (471, o471 P), (477, o477 P), (478, o478 P), (484, o484 P), (485, o485 P), (491, o491 P), (492, o492 P), (498, o498 P), (499, o499 P), (505, o505 P), (506, o506 P), (512, o512 P), (513, o513 P), (519, o519 P), (520, o520 P), (524, o524 P), (525, o525 P), (531, o531 P), (532, o532 P)]
noncomputable def HK : Hook := kHook KP [2, 3, 27, 28, 29, 30, 31, 40, 41, 47, 48, 54, 55, 56, 57, 63, 64, 70, 71, 77, 78, 84, 85, 91, 92, 98, 99, 105, 106, 112, 113, 119, 120, 126, 127, 133, 134, 140, 141, 145, 146, 150, 151, 157, 158, 162, 163, 169, 170, 174, 175, 179, 180, 186, 187, 193, 194, 200, 201, 207, 208, 214, 215, 221, 222, 228, 229, 235, 236, 242, 243, 249, 250, 254, 255, 261, 262, 268, 269, 275, 276, 282, 283, 289, 290, 296, 297, 303, 304, 310, 311, 317, 318, 324, 325, 329, 330, 332, 338, 339, 345, 346, 350, 351, 357, 358, 364, 365, 369, 370, 376, 377, 383, 384, 388, 389, 395, 396, 400, 401, 407, 408, 414, 415, 421, 422, 423, 429, 430, 436, 437, 443, 444, 448, 449, 455, 456, 462, 463, 464, 470, 471, 477, 478, 484, 485, 491, 492, 498, 499, 505, 506, 512, 513, 519, 520, 524, 525, 531, 532] (fun _ => by kernel_rfl)
noncomputable def lv : List (Str × WData) := [(Str.ofString "STILL", .tuple [.tuple [], .tuple [.int 0, .int 1], .int 0])]
noncomputable def Xt (s : Shared) : Bool := xlAt qv lv s && recOk rwL.row.toRowW.records s
theorem lk_size (w : World) : ((boot_heap w.params).isNs mainGlobals && (⟨[]⟩ : Array GenState).size == 0, (boot_heap w.params).objs.size, (boot_heap w.params).nsMap mainGlobals (Str.ofString "__annotations__")) = (true, 11, annT) := by kernel_rfl
theorem lk_1 (w : World) : (fun os => (staticsOk (importedModules prg.main.body) (boot_heap w.params) (h_fin w.params) && namesBound prg (h_fin w.params) && gensDone (sHH (h_fin w.params) 944 os) && laidKept (boot_heap w.params) (h_fin w.params))) = fun os => true := by kernel_rfl
theorem lk_3 (w : World) : (fun os => HK.obs (sHH (h_fin w.params) 944 os)) = fun os => HK.val w := by kernel_rfl
theorem lk_2 (w : World) : (fun os => openSeen qv [Str.ofString "STILL"] (importedModules prg.main.body) Xt true (sHH (h_fin w.params) 944 os)) = fun os => openGood qv [Str.ofString "STILL"] := by kernel_rfl
end
end Mine

open PySem PySem.W PySem.Spec PySem.Calls PyProof.Rows
set_option Elab.async false
set_option maxRecDepth 100000
set_option linter.unusedVariables false
namespace Mine
section
theorem plain_opening : opening prg = plainProg prg.main.scope.names := by kernel_rfl
theorem lk_all (w : World) : (fun os => (staticsOk (importedModules prg.main.body) (boot_heap w.params) (h_fin w.params) && namesBound prg (h_fin w.params) && gensDone (sHH (h_fin w.params) 944 os) && laidKept (boot_heap w.params) (h_fin w.params), openSeen qv [Str.ofString "STILL"] (importedModules prg.main.body) Xt true (sHH (h_fin w.params) 944 os), HK.obs (sHH (h_fin w.params) 944 os))) = fun os => (true, openGood qv [Str.ofString "STILL"], HK.val w) :=
  funext fun os => looks_pair (congrFun (lk_1 w) os) (looks_pair (congrFun (lk_2 w) os) (congrFun (lk_3 w) os))
theorem left_ok : LeftO prg qv [Str.ofString "STILL"] Xt HK.obs HK.val 5550 :=
  LeftO.of_pieces (H₀ := boot_heap) (H₁ := h_fin) (gs₀ := ⟨[]⟩) (gs₁ := ⟨[]⟩) (d₀ := boot_drawn) (d₁ := {}) (k₀ := boot_toks) (k₁ := 944) (m₀ := 11) (ann := annT)
    (boot_open plain_opening rfl (fun s => rfl)) lk_size run_all (by decide +kernel) (fun w => by
      exact lk_all w)
noncomputable def dLaw : DefRec := match stA 94 with
  | some (PySem.Stmt.FunctionDef n a b _ _ _ s _ _ p) => ⟨n, a, b, s, p⟩
  | _ => ⟨Str.ofString "", ⟨[], [], none, [], [], none, []⟩, [], prg.main.scope, ⟨0, 0, 0, 0⟩⟩
theorem d1 : defOf qv rwL.row.name = some (dLaw, []) := by kernel_rfl
theorem d2 : rwL.row.toRowW.prog.theDef rwL.row.name = some (dLaw.params, dLaw.body, dLaw.scope) := by kernel_rfl
theorem said_ok : rwL.wellSaid = true := by kernel_rfl
theorem hd (walk : WalkO qv [Str.ofString "STILL"] (XL qv lv) HK.says rwL.row.toRowW dLaw [] fun f vs => PySem.call f vs) : rwL.Holds :=
  holds_law said_ok fun said => holds_open (Xt := Xt) (XP := XL qv lv) (Yf := HK.obs) (Ya := HK.val) (YP := HK.says) (N := 5550) left_ok HK.of HK.keeps (fun s e => xl_of s (Bool.and_eq_true_iff.mp e).1) XL.keeps
    (by kernel_rfl) (by kernel_rfl) (by kernel_rfl) (fun s e => recFacts_of (Bool.and_eq_true_iff.mp e).2) (by kernel_rfl) said (by kernel_rfl) ⟨rfl, rfl, rfl, rfl, rfl, by decide +kernel⟩ ⟨[.list [.int 3, .int 1]], by kernel_rfl, by kernel_rfl⟩ walk
end
end Mine

open PySem PySem.W PySem.Spec PySem.Calls PyProof.Rows
set_option Elab.async false
set_option maxRecDepth 100000
set_option linter.unusedVariables false
namespace Mine
noncomputable def QP (P : List D → D → Prop) : Fun → Prop := fun φ => ∀ k ds d, P ds d → φ k ds = .ok d k
noncomputable def QE (P : List D → Prop) : Fun → Prop := fun φ => ∀ k ds, k < 1000 → P ds → ∃ k', φ k ds = .ok (.bool true) k'
noncomputable def QT (dr : Nat → Int → Int) : Fun → Prop := fun φ => ∀ k (m : Int), k < 2000 → 0 < m → m ≤ 100 → φ k [.dict [], .int m] = .ok (.int (dr k m)) (k + 1)
theorem has_le {Φ : PhiT} {n m : Nat} (h : n ≤ m) (x : Has Φ n_of_term (termP m)) : Has Φ n_of_term (termP n) := by
  obtain ⟨φ, e, q⟩ := x
  refine ⟨φ, e, fun k ds d ⟨t, many, rs0, l, rs, h1, h2, h3⟩ => q k ds d ⟨t, many, rs0, l, rs, h1, Nat.le_trans h2 h, h3⟩⟩
theorem bind1 {F : FuncData} {p : Str} (h : ∀ a, bindArgs F ⟨[a], []⟩ = pure [(p, a)]) : ∀ vs : List Value, vs.length = ([p] : List Str).length → bindArgs F ⟨vs, []⟩ = pure (([p] : List Str).zip vs)
  | [a], _ => h a
theorem bind2 {F : FuncData} {p q : Str} (h : ∀ a b, bindArgs F ⟨[a, b], []⟩ = pure [(p, a), (q, b)]) : ∀ vs : List Value, vs.length = ([p, q] : List Str).length → bindArgs F ⟨vs, []⟩ = pure (([p, q] : List Str).zip vs)
  | [a, b], _ => h a b
theorem bind3 {F : FuncData} {p q r : Str} (h : ∀ a b c, bindArgs F ⟨[a, b, c], []⟩ = pure [(p, a), (q, b), (r, c)]) : ∀ vs : List Value, vs.length = ([p, q, r] : List Str).length → bindArgs F ⟨vs, []⟩ = pure (([p, q, r] : List Str).zip vs)
  | [a, b, c], _ => h a b c
theorem bind4 {F : FuncData} {p q r s : Str} (h : ∀ a b c d, bindArgs F ⟨[a, b, c, d], []⟩ = pure [(p, a), (q, b), (r, c), (s, d)]) : ∀ vs : List Value, vs.length = ([p, q, r, s] : List Str).length → bindArgs F ⟨vs, []⟩ = pure (([p, q, r, s] : List Str).zip vs)
  | [a, b, c, d], _ => h a b c d

/-- the text's constants -/
noncomputable def GT : GamT := fun t => if t = 45220 then some (rD R0) else if t = 45476 then some (rD R1) else if t = n_MOST_SQUARED then some (.int 1000) else if t = 6898060 then some (.str s_inf) else if t = 7065496 then some (.str s_linf) else if t = 113571582632 then some (.tuple [.int 1, .int 5, .int 7, .int 11, .int 19, .int 35, .int 67]) else if t = 17093935295678 then some (enc .x) else none
theorem gn : Gn GT where
  r0 := rfl
  r1 := rfl
  sq := rfl
  far := rfl
  low := rfl
  tri := rfl
  lx := rfl
theorem of_tok {x y : Str} {t : Nat} (h : tok x = t) (e : tok y = t) : x = y := tok_inj (h.trans e.symm)

section
variable {prog : Program} {w : World} {hb : Heap} {C : Addr} {bx : Bx} {b l : Addr} {xs : List Int}
theorem Kn.stepQ {K : Frag} {nn n m : Nat} {l : List Item} {Γ : GamT} (G : Base prog w K hb bx Γ) (h : Kn prog w K hb C bx nn l) {f : Addr} {name qual : Str} {params : Arguments} {body : List Stmt} {scope : Scope} {dV kV doc pm cdv ct oc : Value} {an od : Option Addr} {osl : Array (Option Value)} {ps : List Str} {qs : List Nat} {B : List S} {t : Nat} {Q : Fun → Prop}
    (ho : K.lookup f = some ⟨oc, od, .func (fnOf name qual params body scope dV kV doc pm an cdv ct), osl⟩) (hcd : codeIn K cdv qual = true)
    (hbind : ∀ vs : List Value, vs.length = ps.length → bindArgs (fnOf name qual params body scope dV kV doc pm an cdv ct) ⟨vs, []⟩ = pure (ps.zip vs)) (hsc : scOk scope ps = true) (hB : body.map (erS m scope.names) = B)
    (e1 : tok name = t) (e2 : nsIn K mainGlobals name = some (some (.ref f))) (e3 : keepIn K (.ref f) = true) (hps : ps.map tok = qs)
    (hq : ∀ Φ, Tab Φ l → Q (runB Φ Γ n qs B)) : Kn prog w K hb C bx (nn + 1) ((t, f, Q) :: l) := by
  subst hps
  exact Kn.step G h ho hcd hbind hsc hB e1 e2 e3 hq

theorem gam_ok (KX : (KP w.params).In hb) : ∀ x d, GT (tok x) = some d → ∃ v, nsIn (KP w.params) mainGlobals x = some (some v) ∧ ∀ (X : Addr → Prop) (h : Heap), (∀ a, X a → hb.get? a = none) → (∀ b o, hb.get? b = some o → h.get? b = some o) → Rep bx X h v d := by
  intro x d q
  unfold GT at q
  split at q
  · rename_i e
    obtain rfl := of_tok e (y := "R0") (by decide +kernel)
    cases q
    refine ⟨.ref 56, by kernel_rfl, fun X h hX hk => ?_⟩
    have e0 : (KP w.params).lookup 56 = some { cls := .type "tuple", data := .seq #[.int 0 253, .int 1 254] } := by kernel_rfl
    have e1 := KX _ _ e0
    exact .tup (vs := [.int 0 253, .int 1 254]) (n := 0) (fun z => by rw [hX _ z] at e1; cases e1) (hk _ _ e1) rfl rfl (.cons (.int _ _) (.cons (.int _ _) .nil))
  split at q
  · rename_i e
    obtain rfl := of_tok e (y := "R1") (by decide +kernel)
    cases q
    refine ⟨.ref 57, by kernel_rfl, fun X h hX hk => ?_⟩
    have e0 : (KP w.params).lookup 57 = some { cls := .type "tuple", data := .seq #[.int 1 256, .int 1 257] } := by kernel_rfl
    have e1 := KX _ _ e0
    exact .tup (vs := [.int 1 256, .int 1 257]) (n := 0) (fun z => by rw [hX _ z] at e1; cases e1) (hk _ _ e1) rfl rfl (.cons (.int _ _) (.cons (.int _ _) .nil))
  split at q
  · rename_i e
    obtain rfl := of_tok e (y := "MOST_SQUARED") (by decide +kernel)
    cases q
    exact ⟨.int 1000 499, by kernel_rfl, fun X h hX hk => .int _ _⟩
  split at q
  · rename_i e
    obtain rfl := of_tok e (y := "FAR") (by decide +kernel)
    cases q
    rw [← e_inf]
    exact ⟨.str "inf" 757, by kernel_rfl, fun X h hX hk => .str _ _⟩
  split at q
  · rename_i e
    obtain rfl := of_tok e (y := "LOW") (by decide +kernel)
    cases q
    rw [← e_linf]
    exact ⟨.str "-inf" 759, by kernel_rfl, fun X h hX hk => .str _ _⟩
  split at q
  · rename_i e
    obtain rfl := of_tok e (y := "TRIES") (by decide +kernel)
    cases q
    refine ⟨.ref 423, by kernel_rfl, fun X h hX hk => ?_⟩
    have e0 : (KP w.params).lookup 423 = some { cls := .type "tuple", data := .seq #[.int 1 761, .int 5 762, .int 7 763, .int 11 764, .int 19 765, .int 35 766, .int 67 767] } := by kernel_rfl
    have e1 := KX _ _ e0
    exact .tup (vs := [.int 1 761, .int 5 762, .int 7 763, .int 11 764, .int 19 765, .int 35 766, .int 67 767]) (n := 0) (fun z => by rw [hX _ z] at e1; cases e1) (hk _ _ e1) rfl rfl (.cons (.int _ _) (.cons (.int _ _) (.cons (.int _ _) (.cons (.int _ _) (.cons (.int _ _) (.cons (.int _ _) (.cons (.int _ _) .nil)))))))
  split at q
  · rename_i e
    obtain rfl := of_tok e (y := "_law_x") (by decide +kernel)
    cases q
    refine ⟨.ref 464, by kernel_rfl, fun X h hX hk => ?_⟩
    have e0 : (KP w.params).lookup 464 = some { cls := .type "tuple", data := .seq #[.str "sym" 834, .str "x" 835] } := by kernel_rfl
    have e1 := KX _ _ e0
    show Rep bx X h (.ref 464) (.tuple [.str s_sym, .str s_x])
    rw [← e_sym, ← e_x]
    exact .tup (vs := [.str "sym" 834, .str "x" 835]) (n := 0) (fun z => by rw [hX _ z] at e1; cases e1) (hk _ _ e1) rfl rfl (.cons (.str _ _) (.cons (.str _ _) .nil))
  · cases q
theorem blt_ok : ∀ x : Str, ((biOf x).isSome = true ∨ x = ("range" : Str)) → nsIn (KP w.params) mainGlobals x = some none := by
  intro x h
  rcases h with h | rfl
  · unfold biOf at h
    split at h
    · rename_i e; rw [beq_iff_eq] at e; subst e; kernel_rfl
    split at h
    · rename_i e; rw [beq_iff_eq] at e; subst e; kernel_rfl
    split at h
    · rename_i e; rw [beq_iff_eq] at e; subst e; kernel_rfl
    split at h
    · rename_i e; rw [beq_iff_eq] at e; subst e; kernel_rfl
    split at h
    · rename_i e; rw [beq_iff_eq] at e; subst e; kernel_rfl
    split at h
    · rename_i e; rw [beq_iff_eq] at e; subst e; kernel_rfl
    · cases h
  · kernel_rfl
theorem base_ok (KX : (KP w.params).In hb) (T : ∃ p loose mg mb, TopRead p loose mg mb hb) : Base prog w (KP w.params) hb bx GT :=
  ⟨KX, T, gam_ok KX, blt_ok, by
    obtain ⟨_, _, _, _, t⟩ := T
    exact t.nolimit⟩

noncomputable def L1 (xs : List Int) : List Item := (n_gcd, 41, QP gcdP) :: []
theorem k1 (G : Base prog w (KP w.params) hb (some (b, l, xs)) GT) : Kn prog w (KP w.params) hb C (some (b, l, xs)) 1 (L1 xs) := by
  unfold L1
  refine Kn.stepQ (n := 1200) (m := 60) (ps := P_gcd) (qs := Q_gcd) (B := B_gcd) G Kn.nil rfl (by kernel_rfl) (bind2 fun a b => rfl) (by kernel_rfl) (by kernel_rfl) (by kernel_rfl) (by kernel_rfl) (by kernel_rfl) (by kernel_rfl) fun Φ hT => ?_
  rintro k ds d ⟨a, b, rfl, h, rfl⟩
  exact gcd_ok h
noncomputable def L2 (xs : List Int) : List Item := (n_rat, 64, QP ratP) :: L1 xs
theorem k2 (G : Base prog w (KP w.params) hb (some (b, l, xs)) GT) : Kn prog w (KP w.params) hb C (some (b, l, xs)) 2 (L2 xs) := by
  unfold L2
  refine Kn.stepQ (n := 1200) (m := 60) (ps := P_rat) (qs := Q_rat) (B := B_rat) G (k1 G) rfl (by kernel_rfl) (bind2 fun a b => rfl) (by kernel_rfl) (by kernel_rfl) (by kernel_rfl) (by kernel_rfl) (by kernel_rfl) (by kernel_rfl) fun Φ hT => ?_
  rintro k ds d ⟨t, b, rfl, h0, h, rfl⟩
  exact rat_ok (hT n_gcd _ _ rfl) h0 h
noncomputable def L3 (xs : List Int) : List Item := (n_radd, 71, QP raddP) :: L2 xs
theorem k3 (G : Base prog w (KP w.params) hb (some (b, l, xs)) GT) : Kn prog w (KP w.params) hb C (some (b, l, xs)) 3 (L3 xs) := by
  unfold L3
  refine Kn.stepQ (n := 1200) (m := 60) (ps := P_radd) (qs := Q_radd) (B := B_radd) G (k2 G) rfl (by kernel_rfl) (bind2 fun a b => rfl) (by kernel_rfl) (by kernel_rfl) (by kernel_rfl) (by kernel_rfl) (by kernel_rfl) (by kernel_rfl) fun Φ hT => ?_
  rintro k ds d ⟨a, b, rfl, h1, h2, h3, h4, rfl⟩
  exact radd_ok (hT n_rat _ _ rfl) h1 h2 h3 h4
noncomputable def L4 (xs : List Int) : List Item := (n_rsub, 78, QP rsubP) :: L3 xs
theorem k4 (G : Base prog w (KP w.params) hb (some (b, l, xs)) GT) : Kn prog w (KP w.params) hb C (some (b, l, xs)) 4 (L4 xs) := by
  unfold L4
  refine Kn.stepQ (n := 1200) (m := 60) (ps := P_rsub) (qs := Q_rsub) (B := B_rsub) G (k3 G) rfl (by kernel_rfl) (bind2 fun a b => rfl) (by kernel_rfl) (by kernel_rfl) (by kernel_rfl) (by kernel_rfl) (by kernel_rfl) (by kernel_rfl) fun Φ hT => ?_
  rintro k ds d ⟨a, b, rfl, h1, h2, h3, h4, rfl⟩
  exact rsub_ok (hT n_rat _ _ rfl) h1 h2 h3 h4
noncomputable def L5 (xs : List Int) : List Item := (n_rmul, 85, QP rmulP) :: L4 xs
theorem k5 (G : Base prog w (KP w.params) hb (some (b, l, xs)) GT) : Kn prog w (KP w.params) hb C (some (b, l, xs)) 5 (L5 xs) := by
  unfold L5
  refine Kn.stepQ (n := 1200) (m := 60) (ps := P_rmul) (qs := Q_rmul) (B := B_rmul) G (k4 G) rfl (by kernel_rfl) (bind2 fun a b => rfl) (by kernel_rfl) (by kernel_rfl) (by kernel_rfl) (by kernel_rfl) (by kernel_rfl) (by kernel_rfl) fun Φ hT => ?_
  rintro k ds d ⟨a, b, rfl, h1, h2, h3, h4, rfl⟩
  exact rmul_ok (hT n_rat _ _ rfl) h1 h2 h3 h4
noncomputable def L6 (xs : List Int) : List Item := (n_rdiv, 92, QP rdivP) :: L5 xs
theorem k6 (G : Base prog w (KP w.params) hb (some (b, l, xs)) GT) : Kn prog w (KP w.params) hb C (some (b, l, xs)) 6 (L6 xs) := by
  unfold L6
  refine Kn.stepQ (n := 1200) (m := 60) (ps := P_rdiv) (qs := Q_rdiv) (B := B_rdiv) G (k5 G) rfl (by kernel_rfl) (bind2 fun a b => rfl) (by kernel_rfl) (by kernel_rfl) (by kernel_rfl) (by kernel_rfl) (by kernel_rfl) (by kernel_rfl) fun Φ hT => ?_
  rintro k ds d ⟨a, b, rfl, h1, h2, h3, h4, rfl⟩
  exact rdiv_ok (hT n_rat _ _ rfl) h1 h2 h3 h4
noncomputable def L7 (xs : List Int) : List Item := (n_rcompare, 127, QP rcmpP) :: L6 xs
theorem k7 (G : Base prog w (KP w.params) hb (some (b, l, xs)) GT) : Kn prog w (KP w.params) hb C (some (b, l, xs)) 7 (L7 xs) := by
  unfold L7
  refine Kn.stepQ (n := 1200) (m := 60) (ps := P_rcompare) (qs := Q_rcompare) (B := B_rcompare) G (k6 G) rfl (by kernel_rfl) (bind2 fun a b => rfl) (by kernel_rfl) (by kernel_rfl) (by kernel_rfl) (by kernel_rfl) (by kernel_rfl) (by kernel_rfl) fun Φ hT => ?_
  rintro k ds d ⟨a, b, rfl, h1, h2, rfl⟩
  exact rcompare_ok h1 h2
noncomputable def L8 (xs : List Int) : List Item := (n_is_vast, 120, QP vastP) :: L7 xs
theorem k8 (G : Base prog w (KP w.params) hb (some (b, l, xs)) GT) : Kn prog w (KP w.params) hb C (some (b, l, xs)) 8 (L8 xs) := by
  unfold L8
  refine Kn.stepQ (n := 1200) (m := 60) (ps := P_is_vast) (qs := Q_is_vast) (B := B_is_vast) G (k7 G) rfl (by kernel_rfl) (bind1 fun a => rfl) (by kernel_rfl) (by kernel_rfl) (by kernel_rfl) (by kernel_rfl) (by kernel_rfl) (by kernel_rfl) fun Φ hT => ?_
  rintro k ds d ⟨a, rfl, h1, h2, rfl⟩
  exact vast_ok h1 h2
noncomputable def L9 (xs : List Int) : List Item := (n_let, 141, QP letP) :: L8 xs
theorem k9 (G : Base prog w (KP w.params) hb (some (b, l, xs)) GT) : Kn prog w (KP w.params) hb C (some (b, l, xs)) 9 (L9 xs) := by
  unfold L9
  refine Kn.stepQ (n := 1200) (m := 60) (ps := P_let) (qs := Q_let) (B := B_let) G (k8 G) rfl (by kernel_rfl) (bind1 fun a => rfl) (by kernel_rfl) (by kernel_rfl) (by kernel_rfl) (by kernel_rfl) (by kernel_rfl) (by kernel_rfl) fun Φ hT => ?_
  rintro k ds d ⟨a, rfl, h1, h2, rfl⟩
  exact let_ok (hT n_is_vast _ _ rfl) h1 h2
noncomputable def L10 (xs : List Int) : List Item := (n_mixed, 158, QP mixedP) :: L9 xs
theorem k10 (G : Base prog w (KP w.params) hb (some (b, l, xs)) GT) : Kn prog w (KP w.params) hb C (some (b, l, xs)) 10 (L10 xs) := by
  unfold L10
  refine Kn.stepQ (n := 60) (m := 60) (ps := P_mixed) (qs := Q_mixed) (B := B_mixed) G (k9 G) rfl (by kernel_rfl) (bind3 fun a b c => rfl) (by kernel_rfl) (by kernel_rfl) (by kernel_rfl) (by kernel_rfl) (by kernel_rfl) (by kernel_rfl) fun Φ hT => ?_
  rintro k ds d ⟨a, b, as, bs, rfl, h, rfl⟩
  exact mixed_ok gn.toGm (hT n_rmul _ _ rfl) (hT n_radd _ _ rfl) h
noncomputable def L11 (xs : List Int) : List Item := (n_smul, 163, QP smulP) :: L10 xs
theorem k11 (G : Base prog w (KP w.params) hb (some (b, l, xs)) GT) : Kn prog w (KP w.params) hb C (some (b, l, xs)) 11 (L11 xs) := by
  unfold L11
  refine Kn.stepQ (n := 60) (m := 60) (ps := P_smul) (qs := Q_smul) (B := B_smul) G (k10 G) rfl (by kernel_rfl) (bind2 fun a b => rfl) (by kernel_rfl) (by kernel_rfl) (by kernel_rfl) (by kernel_rfl) (by kernel_rfl) (by kernel_rfl) fun Φ hT => ?_
  rintro k ds d ⟨a, b, as, bs, rfl, h1, h2, h3, h4, rfl⟩
  exact smul_ok (hT n_mixed _ _ rfl) (hT n_let _ _ rfl) h1 h2 h3 h4
noncomputable def L12 (xs : List Int) : List Item := (n_sscale, 151, QP sscaleP) :: L11 xs
theorem k12 (G : Base prog w (KP w.params) hb (some (b, l, xs)) GT) : Kn prog w (KP w.params) hb C (some (b, l, xs)) 12 (L12 xs) := by
  unfold L12
  refine Kn.stepQ (n := 60) (m := 60) (ps := P_sscale) (qs := Q_sscale) (B := B_sscale) G (k11 G) rfl (by kernel_rfl) (bind2 fun a b => rfl) (by kernel_rfl) (by kernel_rfl) (by kernel_rfl) (by kernel_rfl) (by kernel_rfl) (by kernel_rfl) fun Φ hT => ?_
  rintro k ds d ⟨a, b, rfl, h1, h2, rfl⟩
  exact sscale_ok (hT n_rmul _ _ rfl) h1 h2
noncomputable def L13 (xs : List Int) : List Item := (n_sinverse, 170, QP sinvP) :: L12 xs
theorem k13 (G : Base prog w (KP w.params) hb (some (b, l, xs)) GT) : Kn prog w (KP w.params) hb C (some (b, l, xs)) 13 (L13 xs) := by
  unfold L13
  refine Kn.stepQ (n := 60) (m := 60) (ps := P_sinverse) (qs := Q_sinverse) (B := B_sinverse) G (k12 G) rfl (by kernel_rfl) (bind1 fun a => rfl) (by kernel_rfl) (by kernel_rfl) (by kernel_rfl) (by kernel_rfl) (by kernel_rfl) (by kernel_rfl) fun Φ hT => ?_
  rintro k ds d ⟨a, rfl, h1, h2, h3, rfl⟩
  exact sinv_ok gn.toGm (hT n_rdiv _ _ rfl) (hT n_let _ _ rfl) h1 h2 h3
noncomputable def L14 (xs : List Int) : List Item := (n_need_begin, 187, QP needP) :: L13 xs
theorem k14 (G : Base prog w (KP w.params) hb (some (b, l, xs)) GT) : Kn prog w (KP w.params) hb C (some (b, l, xs)) 14 (L14 xs) := by
  unfold L14
  refine Kn.stepQ (n := 60) (m := 60) (ps := P_need_begin) (qs := Q_need_begin) (B := B_need_begin) G (k13 G) rfl (by kernel_rfl) (bind2 fun a b => rfl) (by kernel_rfl) (by kernel_rfl) (by kernel_rfl) (by kernel_rfl) (by kernel_rfl) (by kernel_rfl) fun Φ hT => ?_
  rintro k ds d ⟨a, rfl, h, rfl⟩
  exact need_ok (hT n_rcompare _ _ rfl) h
noncomputable def L15 (xs : List Int) : List Item := (n_spower, 236, QP spowP) :: L14 xs
theorem k15 (G : Base prog w (KP w.params) hb (some (b, l, xs)) GT) : Kn prog w (KP w.params) hb C (some (b, l, xs)) 15 (L15 xs) := by
  unfold L15
  refine Kn.stepQ (n := 60) (m := 60) (ps := P_spower) (qs := Q_spower) (B := B_spower) G (k14 G) rfl (by kernel_rfl) (bind2 fun a b => rfl) (by kernel_rfl) (by kernel_rfl) (by kernel_rfl) (by kernel_rfl) (by kernel_rfl) (by kernel_rfl) fun Φ hT => ?_
  rintro k ds d ⟨n, rfl, rfl⟩
  exact spow_ok gn.toGm (hT n_need_begin _ _ rfl)
noncomputable def L16 (xs : List Int) : List Item := (n_cut, 134, QP cutP) :: L15 xs
theorem k16 (G : Base prog w (KP w.params) hb (some (b, l, xs)) GT) : Kn prog w (KP w.params) hb C (some (b, l, xs)) 16 (L16 xs) := by
  unfold L16
  refine Kn.stepQ (n := 60) (m := 60) (ps := P_cut) (qs := Q_cut) (B := B_cut) G (k15 G) rfl (by kernel_rfl) (bind2 fun a b => rfl) (by kernel_rfl) (by kernel_rfl) (by kernel_rfl) (by kernel_rfl) (by kernel_rfl) (by kernel_rfl) fun Φ hT => ?_
  rintro k ds d ⟨a, rfl, rfl⟩
  exact cut_ok gn.toGm
noncomputable def L17 (xs : List Int) : List Item := (n_lplain, 250, QP lplP) :: L16 xs
theorem k17 (G : Base prog w (KP w.params) hb (some (b, l, xs)) GT) : Kn prog w (KP w.params) hb C (some (b, l, xs)) 17 (L17 xs) := by
  unfold L17
  refine Kn.stepQ (n := 60) (m := 60) (ps := P_lplain) (qs := Q_lplain) (B := B_lplain) G (k16 G) rfl (by kernel_rfl) (bind2 fun a b => rfl) (by kernel_rfl) (by kernel_rfl) (by kernel_rfl) (by kernel_rfl) (by kernel_rfl) (by kernel_rfl) fun Φ hT => ?_
  rintro k ds d ⟨a, rfl, rfl⟩
  exact lpl_ok gn.toGm
noncomputable def L18 (xs : List Int) : List Item := (n_lmul, 262, QP lmulP) :: L17 xs
theorem k18 (G : Base prog w (KP w.params) hb (some (b, l, xs)) GT) : Kn prog w (KP w.params) hb C (some (b, l, xs)) 18 (L18 xs) := by
  unfold L18
  refine Kn.stepQ (n := 60) (m := 60) (ps := P_lmul) (qs := Q_lmul) (B := B_lmul) G (k17 G) rfl (by kernel_rfl) (bind2 fun a b => rfl) (by kernel_rfl) (by kernel_rfl) (by kernel_rfl) (by kernel_rfl) (by kernel_rfl) (by kernel_rfl) fun Φ hT => ?_
  rintro k ds d ⟨l1, l2, a, b, bs, rfl, h1, h2, rfl⟩
  exact lmul_ok (hT n_smul _ _ rfl) h1 h2
noncomputable def L19 (xs : List Int) : List Item := (n_rpower, 113, QP rpowP) :: L18 xs
theorem k19 (G : Base prog w (KP w.params) hb (some (b, l, xs)) GT) : Kn prog w (KP w.params) hb C (some (b, l, xs)) 19 (L19 xs) := by
  unfold L19
  refine Kn.stepQ (n := 60) (m := 60) (ps := P_rpower) (qs := Q_rpower) (B := B_rpower) G (k18 G) rfl (by kernel_rfl) (bind2 fun a b => rfl) (by kernel_rfl) (by kernel_rfl) (by kernel_rfl) (by kernel_rfl) (by kernel_rfl) (by kernel_rfl) fun Φ hT => ?_
  rintro k ds d ⟨a, n, rfl, h, rfl⟩
  exact rpower_ok h
noncomputable def L20 (xs : List Int) : List Item := (n_swhole_power, 243, QP swP) :: L19 xs
theorem k20 (G : Base prog w (KP w.params) hb (some (b, l, xs)) GT) : Kn prog w (KP w.params) hb C (some (b, l, xs)) 20 (L20 xs) := by
  unfold L20
  refine Kn.stepQ (n := 60) (m := 60) (ps := P_swhole_power) (qs := Q_swhole_power) (B := B_swhole_power) G (k19 G) rfl (by kernel_rfl) (bind2 fun a b => rfl) (by kernel_rfl) (by kernel_rfl) (by kernel_rfl) (by kernel_rfl) (by kernel_rfl) (by kernel_rfl) fun Φ hT => ?_
  rintro k ds d ⟨a, r, m, rfl, h, rfl⟩
  exact sw_ok gn.toGm (hT n_smul _ _ rfl) (hT n_cut _ _ rfl) h
noncomputable def L21 (xs : List Int) : List Item := (n_ltrim, 269, QP trimP) :: L20 xs
theorem k21 (G : Base prog w (KP w.params) hb (some (b, l, xs)) GT) : Kn prog w (KP w.params) hb C (some (b, l, xs)) 21 (L21 xs) := by
  unfold L21
  refine Kn.stepQ (n := 60) (m := 60) (ps := P_ltrim) (qs := Q_ltrim) (B := B_ltrim) G (k20 G) rfl (by kernel_rfl) (bind1 fun a => rfl) (by kernel_rfl) (by kernel_rfl) (by kernel_rfl) (by kernel_rfl) (by kernel_rfl) (by kernel_rfl) fun Φ hT => ?_
  rintro k ds d ⟨l, rs, rfl, h, rfl⟩
  exact ltrim_ok gn.toGm h
noncomputable def L22 (xs : List Int) : List Item := (n_linverse, 276, QP linvP) :: L21 xs
theorem k22 (G : Base prog w (KP w.params) hb (some (b, l, xs)) GT) : Kn prog w (KP w.params) hb C (some (b, l, xs)) 22 (L22 xs) := by
  unfold L22
  refine Kn.stepQ (n := 60) (m := 60) (ps := P_linverse) (qs := Q_linverse) (B := B_linverse) G (k21 G) rfl (by kernel_rfl) (bind1 fun a => rfl) (by kernel_rfl) (by kernel_rfl) (by kernel_rfl) (by kernel_rfl) (by kernel_rfl) (by kernel_rfl) fun Φ hT => ?_
  rintro k ds d ⟨l, l', rs, a, rfl, h1, h2, h3, rfl⟩
  exact linv_ok (hT n_ltrim _ _ rfl) (hT n_sinverse _ _ rfl) h1 h2 h3
noncomputable def L23 (xs : List Int) : List Item := (n_lpower, 283, QP lpP1) :: L22 xs
theorem k23 (G : Base prog w (KP w.params) hb (some (b, l, xs)) GT) : Kn prog w (KP w.params) hb C (some (b, l, xs)) 23 (L23 xs) := by
  unfold L23
  refine Kn.stepQ (n := 60) (m := 60) (ps := P_lpower) (qs := Q_lpower) (B := B_lpower) G (k22 G) rfl (by kernel_rfl) (bind2 fun a b => rfl) (by kernel_rfl) (by kernel_rfl) (by kernel_rfl) (by kernel_rfl) (by kernel_rfl) (by kernel_rfl) fun Φ hT => ?_
  rintro k ds d ⟨l, l', m, rs, rs', rfl, h1, h2, rfl⟩
  exact lpower1_ok gn.toGm (hT n_ltrim _ _ rfl) (hT n_rpower _ _ rfl) (hT n_swhole_power _ _ rfl) (hT n_sscale _ _ rfl) (hT n_spower _ _ rfl) (hT n_rdiv _ _ rfl) h1 h2
noncomputable def L24 (xs : List Int) : List Item := (n_lpower, 283, QP lpP) :: L23 xs
theorem k24 (G : Base prog w (KP w.params) hb (some (b, l, xs)) GT) : Kn prog w (KP w.params) hb C (some (b, l, xs)) 24 (L24 xs) := by
  unfold L24
  refine Kn.stepQ (n := 60) (m := 60) (ps := P_lpower) (qs := Q_lpower) (B := B_lpower) G (k23 G) rfl (by kernel_rfl) (bind2 fun a b => rfl) (by kernel_rfl) (by kernel_rfl) (by kernel_rfl) (by kernel_rfl) (by kernel_rfl) (by kernel_rfl) fun Φ hT => ?_
  rintro k ds d ⟨l, l', m, rs, rs', rfl, h1, h2, rfl⟩
  exact lpower_ok gn.toGm (hT n_ltrim _ _ rfl) (hT n_rpower _ _ rfl) (hT n_swhole_power _ _ rfl) (hT n_sscale _ _ rfl) (hT n_spower _ _ rfl) (hT n_rdiv _ _ rfl) (hT n_lpower _ _ rfl) (hT n_linverse _ _ rfl) h1 h2
noncomputable def L25 (xs : List Int) : List Item := (n_sadd, 146, QP saddP) :: L24 xs
theorem k25 (G : Base prog w (KP w.params) hb (some (b, l, xs)) GT) : Kn prog w (KP w.params) hb C (some (b, l, xs)) 25 (L25 xs) := by
  unfold L25
  refine Kn.stepQ (n := 60) (m := 60) (ps := P_sadd) (qs := Q_sadd) (B := B_sadd) G (k24 G) rfl (by kernel_rfl) (bind2 fun a b => rfl) (by kernel_rfl) (by kernel_rfl) (by kernel_rfl) (by kernel_rfl) (by kernel_rfl) (by kernel_rfl) fun Φ hT => ?_
  rintro k ds d ⟨a, b, rfl, h1, h2, rfl⟩
  exact sadd_ok (hT n_radd _ _ rfl) h1 h2
noncomputable def L26 (xs : List Int) : List Item := (n_ladd, 255, QP laddP) :: L25 xs
theorem k26 (G : Base prog w (KP w.params) hb (some (b, l, xs)) GT) : Kn prog w (KP w.params) hb C (some (b, l, xs)) 26 (L26 xs) := by
  unfold L26
  refine Kn.stepQ (n := 60) (m := 60) (ps := P_ladd) (qs := Q_ladd) (B := B_ladd) G (k25 G) rfl (by kernel_rfl) (bind2 fun a b => rfl) (by kernel_rfl) (by kernel_rfl) (by kernel_rfl) (by kernel_rfl) (by kernel_rfl) (by kernel_rfl) fun Φ hT => ?_
  rintro k ds d ⟨l1, l2, a, b, rfl, h1, h2, rfl⟩
  exact ladd_ok gn.toGm (hT n_sadd _ _ rfl) h1 h2
noncomputable def L27 (xs : List Int) : List Item := (n_bits_of, 48, QP bitsP) :: L26 xs
theorem k27 (G : Base prog w (KP w.params) hb (some (b, l, xs)) GT) : Kn prog w (KP w.params) hb C (some (b, l, xs)) 27 (L27 xs) := by
  unfold L27
  refine Kn.stepQ (n := 60) (m := 60) (ps := P_bits_of) (qs := Q_bits_of) (B := B_bits_of) G (k26 G) rfl (by kernel_rfl) (bind1 fun a => rfl) (by kernel_rfl) (by kernel_rfl) (by kernel_rfl) (by kernel_rfl) (by kernel_rfl) (by kernel_rfl) fun Φ hT => ?_
  rintro k ds d ⟨n, r, b, rfl, h, rfl, e1, e4, e9⟩
  exact bits_ok h e1 e4 e9
noncomputable def L28 (xs : List Int) : List Item := (n_root_of, 55, QP rootP) :: L27 xs
theorem k28 (G : Base prog w (KP w.params) hb (some (b, l, xs)) GT) : Kn prog w (KP w.params) hb C (some (b, l, xs)) 28 (L28 xs) := by
  unfold L28
  refine Kn.stepQ (n := 60) (m := 60) (ps := P_root_of) (qs := Q_root_of) (B := B_root_of) G (k27 G) rfl (by kernel_rfl) (bind2 fun a b => rfl) (by kernel_rfl) (by kernel_rfl) (by kernel_rfl) (by kernel_rfl) (by kernel_rfl) (by kernel_rfl) fun Φ hT => ?_
  rintro k ds d ⟨n, r, rfl, h, rfl⟩
  exact root_ok (hT n_bits_of _ _ rfl) h
noncomputable def L29 (xs : List Int) : List Item := (n_exact_root, 290, QP exrP) :: L28 xs
theorem k29 (G : Base prog w (KP w.params) hb (some (b, l, xs)) GT) : Kn prog w (KP w.params) hb C (some (b, l, xs)) 29 (L29 xs) := by
  unfold L29
  refine Kn.stepQ (n := 60) (m := 60) (ps := P_exact_root) (qs := Q_exact_root) (B := B_exact_root) G (k28 G) rfl (by kernel_rfl) (bind2 fun a b => rfl) (by kernel_rfl) (by kernel_rfl) (by kernel_rfl) (by kernel_rfl) (by kernel_rfl) (by kernel_rfl) fun Φ hT => ?_
  rintro k ds d ⟨n, r, rfl, h, rfl⟩
  exact exr_ok (hT n_root_of _ _ rfl) h
noncomputable def L30 (xs : List Int) : List Item := (n_of_root, 311, QP rofP) :: L29 xs
theorem k30 (G : Base prog w (KP w.params) hb (some (b, l, xs)) GT) : Kn prog w (KP w.params) hb C (some (b, l, xs)) 30 (L30 xs) := by
  unfold L30
  refine Kn.stepQ (n := 60) (m := 60) (ps := P_of_root) (qs := Q_of_root) (B := B_of_root) G (k29 G) rfl (by kernel_rfl) (bind2 fun a b => rfl) (by kernel_rfl) (by kernel_rfl) (by kernel_rfl) (by kernel_rfl) (by kernel_rfl) (by kernel_rfl) fun Φ hT => ?_
  rintro k ds d ⟨l, h, n, rs, rfl, h1, h2, h3, h4, rfl⟩
  exact rof_ok gn.toGm (hT n_ltrim _ _ rfl) (hT n_exact_root _ _ rfl) (hT n_rpower _ _ rfl) (hT n_sscale _ _ rfl) (hT n_spower _ _ rfl) (hT n_rdiv _ _ rfl) h1 h2 h3 h4
noncomputable def L31 (xs : List Int) : List Item := (n_of_call, 304, QP ocP) :: L30 xs
theorem k31 (G : Base prog w (KP w.params) hb (some (b, l, xs)) GT) : Kn prog w (KP w.params) hb C (some (b, l, xs)) 31 (L31 xs) := by
  unfold L31
  refine Kn.stepQ (n := 60) (m := 60) (ps := P_of_call) (qs := Q_of_call) (B := B_of_call) G (k30 G) rfl (by kernel_rfl) (bind3 fun a b c => rfl) (by kernel_rfl) (by kernel_rfl) (by kernel_rfl) (by kernel_rfl) (by kernel_rfl) (by kernel_rfl) fun Φ hT => ?_
  rintro k ds d ⟨l, l', many, rs, rs', c, rfl, h1, h2, h3, h4, h5, h6, rfl⟩
  exact oc_ok (hT n_ltrim _ _ rfl) h1 h2 h3 h4 h5 h6
noncomputable def L32 (xs : List Int) : List Item := (n_of_sum, 325, QP sumP) :: L31 xs
theorem k32 (G : Base prog w (KP w.params) hb (some (b, l, xs)) GT) : Kn prog w (KP w.params) hb C (some (b, l, xs)) 32 (L32 xs) := by
  unfold L32
  refine Kn.stepQ (n := 60) (m := 60) (ps := P_of_sum) (qs := Q_of_sum) (B := B_of_sum) G (k31 G) rfl (by kernel_rfl) (bind2 fun a b => rfl) (by kernel_rfl) (by kernel_rfl) (by kernel_rfl) (by kernel_rfl) (by kernel_rfl) (by kernel_rfl) fun Φ hT => ?_
  rintro k ds d h
  exact osum_ok (hT n_ladd _ _ rfl) h
noncomputable def L33 (xs : List Int) : List Item := (n_of_term, 330, QP (termP 0)) :: L32 xs
theorem k33 (G : Base prog w (KP w.params) hb (some (b, l, xs)) GT) : Kn prog w (KP w.params) hb C (some (b, l, xs)) 33 (L33 xs) := by
  unfold L33
  refine Kn.stepQ (n := 60) (m := 60) (ps := P_of_term) (qs := Q_of_term) (B := B_of_term) G (k32 G) rfl (by kernel_rfl) (bind3 fun a b c => rfl) (by kernel_rfl) (by kernel_rfl) (by kernel_rfl) (by kernel_rfl) (by kernel_rfl) (by kernel_rfl) fun Φ hT => ?_
  rintro k ds d h
  exact oterm0_ok gn.toGm (hT n_lplain _ _ rfl) h
noncomputable def L34 (xs : List Int) : List Item := (n_of_power, 318, QP (powP 0)) :: L33 xs
theorem k34 (G : Base prog w (KP w.params) hb (some (b, l, xs)) GT) : Kn prog w (KP w.params) hb C (some (b, l, xs)) 34 (L34 xs) := by
  unfold L34
  refine Kn.stepQ (n := 60) (m := 60) (ps := P_of_power) (qs := Q_of_power) (B := B_of_power) G (k33 G) rfl (by kernel_rfl) (bind4 fun a b c d => rfl) (by kernel_rfl) (by kernel_rfl) (by kernel_rfl) (by kernel_rfl) (by kernel_rfl) (by kernel_rfl) fun Φ hT => ?_
  rintro k ds d h
  exact opow_ok (by decide) (hT n_of_term _ _ rfl) (hT n_lpower _ _ rfl) (hT n_of_root _ _ rfl) h
noncomputable def L35 (xs : List Int) : List Item := (n_of_term, 330, QP (termP 1)) :: L34 xs
theorem k35 (G : Base prog w (KP w.params) hb (some (b, l, xs)) GT) : Kn prog w (KP w.params) hb C (some (b, l, xs)) 35 (L35 xs) := by
  unfold L35
  refine Kn.stepQ (n := 60) (m := 60) (ps := P_of_term) (qs := Q_of_term) (B := B_of_term) G (k34 G) rfl (by kernel_rfl) (bind3 fun a b c => rfl) (by kernel_rfl) (by kernel_rfl) (by kernel_rfl) (by kernel_rfl) (by kernel_rfl) (by kernel_rfl) fun Φ hT => ?_
  rintro k ds d h
  exact oterm_ok gn.toGm (hT n_lplain _ _ rfl) (hT n_of_power _ _ rfl) (hT n_of_call _ _ rfl) (hT n_of_sum _ _ rfl) (hT n_lmul _ _ rfl) (hT n_of_term _ _ rfl) h
noncomputable def L36 (xs : List Int) : List Item := (n_of_power, 318, QP (powP 1)) :: L35 xs
theorem k36 (G : Base prog w (KP w.params) hb (some (b, l, xs)) GT) : Kn prog w (KP w.params) hb C (some (b, l, xs)) 36 (L36 xs) := by
  unfold L36
  refine Kn.stepQ (n := 60) (m := 60) (ps := P_of_power) (qs := Q_of_power) (B := B_of_power) G (k35 G) rfl (by kernel_rfl) (bind4 fun a b c d => rfl) (by kernel_rfl) (by kernel_rfl) (by kernel_rfl) (by kernel_rfl) (by kernel_rfl) (by kernel_rfl) fun Φ hT => ?_
  rintro k ds d h
  exact opow_ok (by decide) (hT n_of_term _ _ rfl) (hT n_lpower _ _ rfl) (hT n_of_root _ _ rfl) h
noncomputable def L37 (xs : List Int) : List Item := (n_of_term, 330, QP (termP 2)) :: L36 xs
theorem k37 (G : Base prog w (KP w.params) hb (some (b, l, xs)) GT) : Kn prog w (KP w.params) hb C (some (b, l, xs)) 37 (L37 xs) := by
  unfold L37
  refine Kn.stepQ (n := 60) (m := 60) (ps := P_of_term) (qs := Q_of_term) (B := B_of_term) G (k36 G) rfl (by kernel_rfl) (bind3 fun a b c => rfl) (by kernel_rfl) (by kernel_rfl) (by kernel_rfl) (by kernel_rfl) (by kernel_rfl) (by kernel_rfl) fun Φ hT => ?_
  rintro k ds d h
  exact oterm_ok gn.toGm (hT n_lplain _ _ rfl) (hT n_of_power _ _ rfl) (hT n_of_call _ _ rfl) (hT n_of_sum _ _ rfl) (hT n_lmul _ _ rfl) (hT n_of_term _ _ rfl) h
noncomputable def L38 (xs : List Int) : List Item := (n_of_power, 318, QP (powP 2)) :: L37 xs
theorem k38 (G : Base prog w (KP w.params) hb (some (b, l, xs)) GT) : Kn prog w (KP w.params) hb C (some (b, l, xs)) 38 (L38 xs) := by
  unfold L38
  refine Kn.stepQ (n := 60) (m := 60) (ps := P_of_power) (qs := Q_of_power) (B := B_of_power) G (k37 G) rfl (by kernel_rfl) (bind4 fun a b c d => rfl) (by kernel_rfl) (by kernel_rfl) (by kernel_rfl) (by kernel_rfl) (by kernel_rfl) (by kernel_rfl) fun Φ hT => ?_
  rintro k ds d h
  exact opow_ok (by decide) (hT n_of_term _ _ rfl) (hT n_lpower _ _ rfl) (hT n_of_root _ _ rfl) h
noncomputable def L39 (xs : List Int) : List Item := (n_of_term, 330, QP (termP 3)) :: L38 xs
theorem k39 (G : Base prog w (KP w.params) hb (some (b, l, xs)) GT) : Kn prog w (KP w.params) hb C (some (b, l, xs)) 39 (L39 xs) := by
  unfold L39
  refine Kn.stepQ (n := 60) (m := 60) (ps := P_of_term) (qs := Q_of_term) (B := B_of_term) G (k38 G) rfl (by kernel_rfl) (bind3 fun a b c => rfl) (by kernel_rfl) (by kernel_rfl) (by kernel_rfl) (by kernel_rfl) (by kernel_rfl) (by kernel_rfl) fun Φ hT => ?_
  rintro k ds d h
  exact oterm_ok gn.toGm (hT n_lplain _ _ rfl) (hT n_of_power _ _ rfl) (hT n_of_call _ _ rfl) (hT n_of_sum _ _ rfl) (hT n_lmul _ _ rfl) (hT n_of_term _ _ rfl) h
noncomputable def L40 (xs : List Int) : List Item := (n_of_power, 318, QP (powP 3)) :: L39 xs
theorem k40 (G : Base prog w (KP w.params) hb (some (b, l, xs)) GT) : Kn prog w (KP w.params) hb C (some (b, l, xs)) 40 (L40 xs) := by
  unfold L40
  refine Kn.stepQ (n := 60) (m := 60) (ps := P_of_power) (qs := Q_of_power) (B := B_of_power) G (k39 G) rfl (by kernel_rfl) (bind4 fun a b c d => rfl) (by kernel_rfl) (by kernel_rfl) (by kernel_rfl) (by kernel_rfl) (by kernel_rfl) (by kernel_rfl) fun Φ hT => ?_
  rintro k ds d h
  exact opow_ok (by decide) (hT n_of_term _ _ rfl) (hT n_lpower _ _ rfl) (hT n_of_root _ _ rfl) h
noncomputable def L41 (xs : List Int) : List Item := (n_of_term, 330, QP (termP 4)) :: L40 xs
theorem k41 (G : Base prog w (KP w.params) hb (some (b, l, xs)) GT) : Kn prog w (KP w.params) hb C (some (b, l, xs)) 41 (L41 xs) := by
  unfold L41
  refine Kn.stepQ (n := 60) (m := 60) (ps := P_of_term) (qs := Q_of_term) (B := B_of_term) G (k40 G) rfl (by kernel_rfl) (bind3 fun a b c => rfl) (by kernel_rfl) (by kernel_rfl) (by kernel_rfl) (by kernel_rfl) (by kernel_rfl) (by kernel_rfl) fun Φ hT => ?_
  rintro k ds d h
  exact oterm_ok gn.toGm (hT n_lplain _ _ rfl) (hT n_of_power _ _ rfl) (hT n_of_call _ _ rfl) (hT n_of_sum _ _ rfl) (hT n_lmul _ _ rfl) (hT n_of_term _ _ rfl) h
noncomputable def L42 (xs : List Int) : List Item := (n_of_power, 318, QP (powP 4)) :: L41 xs
theorem k42 (G : Base prog w (KP w.params) hb (some (b, l, xs)) GT) : Kn prog w (KP w.params) hb C (some (b, l, xs)) 42 (L42 xs) := by
  unfold L42
  refine Kn.stepQ (n := 60) (m := 60) (ps := P_of_power) (qs := Q_of_power) (B := B_of_power) G (k41 G) rfl (by kernel_rfl) (bind4 fun a b c d => rfl) (by kernel_rfl) (by kernel_rfl) (by kernel_rfl) (by kernel_rfl) (by kernel_rfl) (by kernel_rfl) fun Φ hT => ?_
  rintro k ds d h
  exact opow_ok (by decide) (hT n_of_term _ _ rfl) (hT n_lpower _ _ rfl) (hT n_of_root _ _ rfl) h
noncomputable def L43 (xs : List Int) : List Item := (n_of_term, 330, QP (termP 5)) :: L42 xs
theorem k43 (G : Base prog w (KP w.params) hb (some (b, l, xs)) GT) : Kn prog w (KP w.params) hb C (some (b, l, xs)) 43 (L43 xs) := by
  unfold L43
  refine Kn.stepQ (n := 60) (m := 60) (ps := P_of_term) (qs := Q_of_term) (B := B_of_term) G (k42 G) rfl (by kernel_rfl) (bind3 fun a b c => rfl) (by kernel_rfl) (by kernel_rfl) (by kernel_rfl) (by kernel_rfl) (by kernel_rfl) (by kernel_rfl) fun Φ hT => ?_
  rintro k ds d h
  exact oterm_ok gn.toGm (hT n_lplain _ _ rfl) (hT n_of_power _ _ rfl) (hT n_of_call _ _ rfl) (hT n_of_sum _ _ rfl) (hT n_lmul _ _ rfl) (hT n_of_term _ _ rfl) h
noncomputable def L44 (xs : List Int) : List Item := (n_from_begin, 430, QP fbP) :: L43 xs
theorem k44 (G : Base prog w (KP w.params) hb (some (b, l, xs)) GT) : Kn prog w (KP w.params) hb C (some (b, l, xs)) 44 (L44 xs) := by
  unfold L44
  refine Kn.stepQ (n := 60) (m := 60) (ps := P_from_begin) (qs := Q_from_begin) (B := B_from_begin) G (k43 G) rfl (by kernel_rfl) (bind2 fun a b => rfl) (by kernel_rfl) (by kernel_rfl) (by kernel_rfl) (by kernel_rfl) (by kernel_rfl) (by kernel_rfl) fun Φ hT => ?_
  rintro k ds d h
  exact fb_ok gn (hT n_ltrim _ _ rfl) h
noncomputable def L45 (xs : List Int) : List Item := (n_begun_series, 437, QP (bsP 5)) :: L44 xs
theorem k45 (G : Base prog w (KP w.params) hb (some (b, l, xs)) GT) : Kn prog w (KP w.params) hb C (some (b, l, xs)) 45 (L45 xs) := by
  unfold L45
  refine Kn.stepQ (n := 60) (m := 60) (ps := P_begun_series) (qs := Q_begun_series) (B := B_begun_series) G (k44 G) rfl (by kernel_rfl) (bind2 fun a b => rfl) (by kernel_rfl) (by kernel_rfl) (by kernel_rfl) (by kernel_rfl) (by kernel_rfl) (by kernel_rfl) fun Φ hT => ?_
  rintro k ds d h
  exact bs_ok gn (hT n_ltrim _ _ rfl) (hT n_of_term _ _ rfl) h
noncomputable def L46 (xs : List Int) : List Item := (n_limit_near, 444, QP (lnP 5)) :: L45 xs
theorem k46 (G : Base prog w (KP w.params) hb (some (b, l, xs)) GT) : Kn prog w (KP w.params) hb C (some (b, l, xs)) 46 (L46 xs) := by
  unfold L46
  refine Kn.stepQ (n := 60) (m := 60) (ps := P_limit_near) (qs := Q_limit_near) (B := B_limit_near) G (k45 G) rfl (by kernel_rfl) (bind4 fun a b c d => rfl) (by kernel_rfl) (by kernel_rfl) (by kernel_rfl) (by kernel_rfl) (by kernel_rfl) (by kernel_rfl) fun Φ hT => ?_
  rintro k ds d h
  exact ln_ok gn (hT n_begun_series _ _ rfl) (hT n_from_begin _ _ rfl) h
noncomputable def L47 (xs : List Int) : List Item := (n_limit, 463, QP (lnP 5)) :: L46 xs
theorem k47 (G : Base prog w (KP w.params) hb (some (b, l, xs)) GT) : Kn prog w (KP w.params) hb C (some (b, l, xs)) 47 (L47 xs) := by
  unfold L47
  refine Kn.stepQ (n := 60) (m := 60) (ps := P_limit) (qs := Q_limit) (B := B_limit) G (k46 G) rfl (by kernel_rfl) (bind4 fun a b c d => rfl) (by kernel_rfl) (by kernel_rfl) (by kernel_rfl) (by kernel_rfl) (by kernel_rfl) (by kernel_rfl) fun Φ hT => ?_
  rintro k ds d h
  exact lim_ok gn (hT n_limit_near _ _ rfl) h
noncomputable def L48 (xs : List Int) : List Item := (n_law_told, 492, QP (tlP 5)) :: L47 xs
theorem k48 (G : Base prog w (KP w.params) hb (some (b, l, xs)) GT) : Kn prog w (KP w.params) hb C (some (b, l, xs)) 48 (L48 xs) := by
  unfold L48
  refine Kn.stepQ (n := 60) (m := 60) (ps := P_law_told) (qs := Q_law_told) (B := B_law_told) G (k47 G) rfl (by kernel_rfl) (bind2 fun a b => rfl) (by kernel_rfl) (by kernel_rfl) (by kernel_rfl) (by kernel_rfl) (by kernel_rfl) (by kernel_rfl) fun Φ hT => ?_
  rintro k ds d h
  exact told_ok (hT n_limit _ _ rfl) h
noncomputable def L49 (xs : List Int) : List Item := (n_law_power, 478, QP lpwP) :: L48 xs
theorem k49 (G : Base prog w (KP w.params) hb (some (b, l, xs)) GT) : Kn prog w (KP w.params) hb C (some (b, l, xs)) 49 (L49 xs) := by
  unfold L49
  refine Kn.stepQ (n := 60) (m := 60) (ps := P_law_power) (qs := Q_law_power) (B := B_law_power) G (k48 G) rfl (by kernel_rfl) (bind2 fun a b => rfl) (by kernel_rfl) (by kernel_rfl) (by kernel_rfl) (by kernel_rfl) (by kernel_rfl) (by kernel_rfl) fun Φ hT => ?_
  rintro k ds d h
  exact lpw_ok h
noncomputable def L50 (xs : List Int) : List Item := (n_law_part, 485, QP lptP) :: L49 xs
theorem k50 (G : Base prog w (KP w.params) hb (some (b, l, xs)) GT) : Kn prog w (KP w.params) hb C (some (b, l, xs)) 50 (L50 xs) := by
  unfold L50
  refine Kn.stepQ (n := 60) (m := 60) (ps := P_law_part) (qs := Q_law_part) (B := B_law_part) G (k49 G) rfl (by kernel_rfl) (bind2 fun a b => rfl) (by kernel_rfl) (by kernel_rfl) (by kernel_rfl) (by kernel_rfl) (by kernel_rfl) (by kernel_rfl) fun Φ hT => ?_
  rintro k ds d h
  exact lpt_ok gn (hT n_law_power _ _ rfl) h
noncomputable def L51 (xs : List Int) : List Item := (n_law_due, 499, QP dueP) :: L50 xs
theorem k51 (G : Base prog w (KP w.params) hb (some (b, l, xs)) GT) : Kn prog w (KP w.params) hb C (some (b, l, xs)) 51 (L51 xs) := by
  unfold L51
  refine Kn.stepQ (n := 60) (m := 60) (ps := P_law_due) (qs := Q_law_due) (B := B_law_due) G (k50 G) rfl (by kernel_rfl) (bind3 fun a b c => rfl) (by kernel_rfl) (by kernel_rfl) (by kernel_rfl) (by kernel_rfl) (by kernel_rfl) (by kernel_rfl) fun Φ hT => ?_
  rintro k ds d h
  exact due_ok h
noncomputable def L52 (xs : List Int) : List Item := (n_law_take, 471, QT (drF xs)) :: L51 xs
theorem k52 (G : Base prog w (KP w.params) hb (some (b, l, xs)) GT) (hx : xs.length ≤ 1000) : Kn prog w (KP w.params) hb C (some (b, l, xs)) 52 (L52 xs) := by
  unfold L52
  refine Kn.put (Kn.more (k51 G) (Nat.le_succ _)) (x := "_law_take") (φ := takeF xs) (by kernel_rfl) (by kernel_rfl) (by kernel_rfl) (take_con (f := 471) (m := 60) (xb := "box") (xm := "many") G.kin G.top G.blt G.lim rfl (by kernel_rfl) (bind2 fun a b => rfl) (by kernel_rfl) hx rfl (fun ε => rfl) (by kernel_rfl) (by kernel_rfl) (by kernel_rfl) (by kernel_rfl) (by kernel_rfl) (by kernel_rfl) (by kernel_rfl) (by kernel_rfl)) fun k m h1 h2 h3 => ?_
  exact if_pos ⟨h1, h2, h3⟩
noncomputable def L53 (xs : List Int) : List Item := (n_law_root_right, 506, QE rrP) :: L52 xs
theorem k53 (G : Base prog w (KP w.params) hb (some (b, l, xs)) GT) (hx : xs.length ≤ 1000) : Kn prog w (KP w.params) hb C (some (b, l, xs)) 53 (L53 xs) := by
  unfold L53
  refine Kn.stepQ (n := 60) (m := 60) (ps := P_law_root_right) (qs := Q_law_root_right) (B := B_law_root_right) G (k52 G hx) rfl (by kernel_rfl) (bind4 fun a b c d => rfl) (by kernel_rfl) (by kernel_rfl) (by kernel_rfl) (by kernel_rfl) (by kernel_rfl) (by kernel_rfl) fun Φ hT => ?_
  intro k ds hk h
  exact rr_ok hk (hT n_law_take _ _ rfl) (drF_draws xs) (hT n_law_part _ _ rfl) (hT n_law_power _ _ rfl) (hT n_law_told _ _ rfl) (hT n_law_due _ _ rfl) gn h
noncomputable def L54 (xs : List Int) : List Item := (n_law_pole_right, 513, QE rrP) :: L53 xs
theorem k54 (G : Base prog w (KP w.params) hb (some (b, l, xs)) GT) (hx : xs.length ≤ 1000) : Kn prog w (KP w.params) hb C (some (b, l, xs)) 54 (L54 xs) := by
  unfold L54
  refine Kn.stepQ (n := 60) (m := 60) (ps := P_law_pole_right) (qs := Q_law_pole_right) (B := B_law_pole_right) G (k53 G hx) rfl (by kernel_rfl) (bind4 fun a b c d => rfl) (by kernel_rfl) (by kernel_rfl) (by kernel_rfl) (by kernel_rfl) (by kernel_rfl) (by kernel_rfl) fun Φ hT => ?_
  intro k ds hk h
  exact pp_ok hk (hT n_law_take _ _ rfl) (drF_draws xs) (hT n_law_part _ _ rfl) (hT n_law_power _ _ rfl) (hT n_law_told _ _ rfl) (hT n_law_due _ _ rfl) gn h
noncomputable def L55 (xs : List Int) : List Item := (n_law_quotient_right, 520, QE qqP) :: L54 xs
theorem k55 (G : Base prog w (KP w.params) hb (some (b, l, xs)) GT) (hx : xs.length ≤ 1000) : Kn prog w (KP w.params) hb C (some (b, l, xs)) 55 (L55 xs) := by
  unfold L55
  refine Kn.stepQ (n := 60) (m := 60) (ps := P_law_quotient_right) (qs := Q_law_quotient_right) (B := B_law_quotient_right) G (k54 G hx) rfl (by kernel_rfl) (bind3 fun a b c => rfl) (by kernel_rfl) (by kernel_rfl) (by kernel_rfl) (by kernel_rfl) (by kernel_rfl) (by kernel_rfl) fun Φ hT => ?_
  intro k ds hk h
  exact qq_ok hk (hT n_law_take _ _ rfl) (drF_draws xs) (hT n_law_part _ _ rfl) (hT n_law_power _ _ rfl) (hT n_law_told _ _ rfl) (hT n_law_due _ _ rfl) gn h
noncomputable def L56 (xs : List Int) : List Item := (n_law_beginning_right, 525, QE bbP) :: L55 xs
theorem k56 (G : Base prog w (KP w.params) hb (some (b, l, xs)) GT) (hx : xs.length ≤ 1000) : Kn prog w (KP w.params) hb C (some (b, l, xs)) 56 (L56 xs) := by
  unfold L56
  refine Kn.stepQ (n := 60) (m := 60) (ps := P_law_beginning_right) (qs := Q_law_beginning_right) (B := B_law_beginning_right) G (k55 G hx) rfl (by kernel_rfl) (bind2 fun a b => rfl) (by kernel_rfl) (by kernel_rfl) (by kernel_rfl) (by kernel_rfl) (by kernel_rfl) (by kernel_rfl) fun Φ hT => ?_
  intro k ds hk h
  exact bb_ok hk (hT n_law_take _ _ rfl) (drF_draws xs) (has_le (by decide) (hT n_of_term _ _ rfl)) gn h
end
end Mine

open PySem PySem.W PySem.Spec PySem.Calls PyProof.Rows
set_option Elab.async false
set_option maxRecDepth 100000
set_option maxHeartbeats 8000000
namespace Mine
theorem nc_of {l : List (Str × NameKind)} (h : (l.all fun p => p.2 != .cell) = true) (x : Str) : l.lookup x ≠ some .cell := fun q => by
  have := List.all_eq_true.mp h _ (PySem.mem_of_lookup q)
  simp at this
theorem law_one {prog : Program} {w : World} {hb : Heap} {xs : List Int} {names : List (Str × NameKind)} {rest : List Stmt} (KX : (KP w.params).In hb) (T : ∃ p loose mg mb, TopRead p loose mg mb hb) (hr : rest.map (erS 60 names) = B_law.drop 1) (b l : Addr) :
    ∃ Φ k', Gl prog w (KP w.params) hb 0 (some (b, l, xs.take 24)) False 56 Φ GT ∧ retR (exL (fun ρ k s => ex Φ GT 60 ρ k s) (rest.map (erS 60 names)) [(8155076, .val (.dict []))] 0) = .ok (.bool true) k' := by
  obtain ⟨Φ, G, hT⟩ := (k56 (C := 0) (b := b) (l := l) (xs := xs.take 24) (base_ok (prog := prog) KX T) (by rw [List.length_take]; omega)).gl (base_ok KX T)
  rw [hr]
  obtain ⟨k', e⟩ := law_rest (Γ := GT) (k := 0) (by omega) (hT n_law_take _ _ rfl) (drF_draws (xs.take 24)) (hT n_law_root_right _ _ rfl) (hT n_law_pole_right _ _ rfl) (hT n_law_quotient_right _ _ rfl) (hT n_law_beginning_right _ _ rfl)
  exact ⟨Φ, k', G, e⟩
end Mine

open PySem PySem.W PySem.Spec PySem.Calls PyProof.Rows
set_option Elab.async false
theorem Mine.dep_ok (ε : Env) : (callerA.deeper ε).depth + 56 < recursionLimit := show 1 + claimMargin + 1 + 56 < 1000 by decide +kernel
theorem Mine.uni_ok (ε : Env) : (callerA.deeper ε).units + 8 * 56 + 80 < cLine := show 4 + 3 + 8 * 56 + 80 < 9900 by decide +kernel
set_option maxRecDepth 100000 in
set_option maxHeartbeats 8000000 in
theorem PySem.Challenge.cw_rh0037_01_holds : PySem.Challenge.rw_rh0037_01.Holds := by
  refine Mine.hd ?_
  intro w s₀ s₁ mg mb G Y fa o pm cd doc dV kV ho hd hcd hD hmg hg args vals as hpre hlay hrd hwl hlo
  have KX := kIn_of Y
  have X := (Ground.X G).1
  have V := (Ground.X G).2
  refine Ground.open G ?_
  intro T B D TE TW
  obtain ⟨_, _, M⟩ := bmod_of_top T
  have TA := at_of_top T
  try (obtain ⟨_, _, he, B0⟩ := based_of_top T rfl hmg ho hd; have he' : cd = _ := he; subst he'; clear he)
  clear hmg
  wrow_args hpre hlay hrd hwl hlo
  refine enter_call ?_
  w_top on
  try refine codeAny_mono ?_ (fun _ _ g => GoodW.toG g)
  have K0 := below_caller (Top.heap T)
  w_call any ho hd hcd hD T F
  clear hd TA
  k_drop
  rename_i c9 c8 c7 c6 xs hs hlay0 hL1 hr1 hl2 c4 c3 a vs c0 hL ra w1 r0 hI hr hcond hcond' h₁ N0
  have hex : s₁.heap.get? a = some { cls := .type "list", data := .seq vs.toArray } := by
    cases w1 with
    | list e _ =>
      obtain ⟨o', e', _, n, d⟩ := hL
      rw [e] at e'
      cases e'
      cases d
      exact e
  have hlen : xs.length ≤ 1000 := by omega
  refine wpAny_mono (Mine.law_run (N := 56) (Γ := Mine.GT) (C := 0) (xs' := "script") KX ⟨_, _, _, _, topRead_of T⟩ Mine.blt_ok F ?hL rfl rfl (Mine.dep_ok _) (Mine.uni_ok _) ⟨rfl, rfl, rfl, rfl, rfl, rfl⟩ (Mine.nc_of (by kernel_rfl)) hex hI hlen ?hscr ?et ?eb ?hks ?hlb ?he rfl (Mine.law_one KX ⟨_, _, _, _, topRead_of T⟩ ?hrest)) (fun f s' hq => ?ok) (fun e s' hq => hq.elim)
  case ok =>
    obtain ⟨rfl, hk, h', t', rfl⟩ := hq
    exact ⟨.inl ⟨.bool true, .bool true, [], rfl, fun _ => rfl, .bool true, by kernel_rfl, fun _ => ⟨List.nodup_nil, fun _ z => by cases z⟩⟩, hk, rfl, hg⟩
  case hL =>
    cases q : s₁.heap.get? s₁.heap.objs.size with
    | none => rfl
    | some o => exact absurd (Heap.lt_size q) (Nat.lt_irrefl _)
  case hscr => kernel_rfl
  case et => decide +kernel
  case eb => decide +kernel
  case hks => kernel_rfl
  case hlb => kernel_rfl
  case he => kernel_rfl
  case hrest => kernel_rfl

