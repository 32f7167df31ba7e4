import PyProof.Rows.All
import Wide.All
import OpenK.AllK
import Wide.FinOn
import PySem.Challenge.RW_pq0571_01
set_option Elab.async false
set_option linter.all false
set_option linter.constructorNameAsVariable false
set_option linter.unusedVariables false
set_option autoImplicit false
set_option bootstrap.genMatcherCode false
set_option genSizeOf false
set_option maxRecDepth 100000
section
namespace Mine
inductive Nm | S | T | U | a | b | c | dend | err | undef | accept | mark | nil
 deriving DecidableEq
inductive Vr
 | grammar | known | found | lacking | symbol | users | queue | rule | missing | at_ | number | left
 | symbols | nullables | firsts | mask | is_grown | begins | line | item | right | is_open | later
 | self | names | terminal_count | rules | levels | expect | start | level_of | action | before
 | name | dot | pairs | lefts | parts | begin | count | script | cell | pen | many | digit | some | spot | turn
 | empty | body | part | one | begun | sign | rest | signs | other | pair | drawn | mark | lap | own | held | kept
 deriving DecidableEq
inductive Fd
 | names | terminal_count | rules | levels | expect | start | by_left | offsets | owners | item_count
 | number | left | right | level_of | action | line | before
 deriving DecidableEq
inductive Cl | rule | grammar
 deriving DecidableEq
inductive Fn
 | spread | nullable | first_of | first_masks | spread_items | ruleInit | grammarInit
 | symbol_count | is_terminal | gnumber | rules_of | gitem | rule_of | dot_of | after
 | last_terminal | plain_grammar | law_pen | law_draw | law_pick | law_pairs | law_empty | law_ahead | law_begins | law_pairs_of
 deriving DecidableEq
inductive W | none | bool (b : Bool) | int (i : Int) | str (s : Nm) | loc (l : Nat)
 deriving DecidableEq
inductive V | w (x : W) | tup (xs : List W) | old (a : Nat)
 deriving DecidableEq
abbrev V.none : V := .w .none
abbrev V.bool (b : Bool) : V := .w (.bool b)
abbrev V.int (i : Int) : V := .w (.int i)
abbrev V.str (s : Nm) : V := .w (.str s)
abbrev V.loc (l : Nat) : V := .w (.loc l)
inductive MO
 | list (vs : List V)
 | dict (es : List (Int × Int))
 | sdict (es : List (Nm × Int))
 | inst (c : Cl) (fs : Fd → Option V)
structure MH where
 get : Nat → Option MO
 nxt : Nat
 old : Nat → Option (List Int)
noncomputable def MH.set (h : MH) (l : Nat) (o : MO) : MH := ⟨fun k => if k = l then some o else h.get k, h.nxt, h.old⟩
noncomputable def MH.new (h : MH) (o : MO) : MH := ⟨fun k => if k = h.nxt then some o else h.get k, h.nxt + 1, h.old⟩
inductive Bop | add | sub | mul | div | mod | bor | shl | pow
 deriving DecidableEq
inductive Cop | eq | ne | lt | ge | in_ | notin | isnot
 deriving DecidableEq
inductive B1 | len | list | tuple | int | abs | sum | dict | sortedKeys | sortedSet
 deriving DecidableEq
set_option genInjectivity false in
mutual
inductive E
 | none | bool (b : Bool) | int (i : Int) | str (s : Nm) | negOne
 | var (x : Vr)
 | gEnd | gOwn
 | bin (op : Bop) (a b : E)
 | cmp (op : Cop) (a b : E)
 | ite (t : T) (a b : E)
 | list (es : Es) | tup (es : Es) | dict0
 | attr (a : E) (f : Fd)
 | sub (a b : E)
 | slTo (a hi : E) | slFrom (a lo : E)
 | call (f : Fn) (es : Es)
 | meth (f : Fn) (o : E) (es : Es)
 | mk (c : Cl) (es : Es)
 | append (o a : E) | extend (o a : E) | pop0 (o : E) | get (o k d : E) | index (o a : E)
 | b1 (op : B1) (a : E)
 | max2 (a b : E)
 | comp (elt : E) (xs : List Vr) (it : It) (c : T)
inductive T
 | tt
 | not (t : T) | and (a b : T) | or (a b : T)
 | cmp (op : Cop) (a b : E)
 | val (e : E)
 | badName (x : Vr)
inductive Es
 | nil | cons (e : E) (es : Es)
inductive It
 | seq (e : E) | range (e : E) | enum (e : E)
end
set_option genInjectivity false in
mutual
inductive S
 | assign (x : Vr) (e : E)
 | assign2 (x y : Vr) (a b : E)
 | unpack (xs : List Vr) (e : E)
 | setSub (a i v : E)
 | setAttr (f : Fd) (v : E)
 | expr (e : E)
 | ret (e : E) | cont | raise
 | ite (t : T) (a b : Ss)
 | while_ (t : T) (b : Ss)
 | for_ (xs : List Vr) (it : It) (b : Ss)
inductive Ss
 | nil | cons (s : S) (ss : Ss)
end
noncomputable def weq : W → W → Option Bool
 | .int a, .int b => some (decide (a = b))
 | .str a, .str b => some (decide (a = b))
 | _, _ => none
noncomputable def weqs : List W → List W → Option Bool
 | [], [] => some true
 | x :: xs, y :: ys => (weq x y).bind fun b => (weqs xs ys).bind fun r => some (b && r)
 | _, _ => none
noncomputable def veq : V → V → Option Bool
 | .w x, .w y => weq x y
 | .tup xs, .tup ys => if xs.length = ys.length then weqs xs ys else none
 | _, _ => none
noncomputable def vin (x : V) : List V → Option Bool
 | [] => some false
 | y :: ys => (veq y x).bind fun b => (vin x ys).bind fun r => some (b || r)
theorem none_ne {α : Type} {b : α} {p : Prop} (h : none = some b) : p := by cases h
theorem bind_in {α β : Type} {o : Option α} {f : α → Option β} {c : β} (h : o.bind f = some c) : ∃ a, o = some a ∧ f a = some c := by
 cases o with
 | none => exact none_ne h
 | some a => exact ⟨a, rfl, h⟩
theorem weq_in {x y : W} {b : Bool} (h : weq x y = some b) : (∃ i j, x = .int i ∧ y = .int j ∧ decide (i = j) = b) ∨ ∃ i j, x = .str i ∧ y = .str j ∧ decide (i = j) = b := by
 cases x with
 | int i =>
  cases y with
  | int j => exact .inl ⟨i, j, rfl, rfl, Option.some.inj h⟩
  | _ => exact none_ne h
 | str i =>
  cases y with
  | str j => exact .inr ⟨i, j, rfl, rfl, Option.some.inj h⟩
  | _ => exact none_ne h
 | _ => exact none_ne h
theorem weqs_in {x y : W} {xs ys : List W} {b : Bool} (h : weqs (x :: xs) (y :: ys) = some b) : ∃ b1 b2, weq x y = some b1 ∧ weqs xs ys = some b2 ∧ (b1 && b2) = b :=
 (bind_in (show (weq x y).bind _ = _ from h)).elim fun b1 q => (bind_in q.2).elim fun b2 q' => ⟨b1, b2, q.1, q'.1, Option.some.inj q'.2⟩
theorem veq_in {x y : V} {b : Bool} (h : veq x y = some b) : (∃ a c, x = .w a ∧ y = .w c ∧ weq a c = some b) ∨ ∃ xs ys, x = .tup xs ∧ y = .tup ys ∧ weqs xs ys = some b := by
 cases x with
 | w a =>
  cases y with
  | w c => exact .inl ⟨a, c, rfl, rfl, h⟩
  | _ => exact none_ne h
 | tup xs =>
  cases y with
  | tup ys =>
   have h : (if xs.length = ys.length then weqs xs ys else none) = some b := h
   by_cases hl : xs.length = ys.length
   ·rw [if_pos hl] at h; exact .inr ⟨xs, ys, rfl, rfl, h⟩
   ·rw [if_neg hl] at h; exact none_ne h
  | _ => exact none_ne h
 | old _ => exact none_ne h
theorem vin_in {x v : V} {vs : List V} {b : Bool} (h : vin x (v :: vs) = some b) : ∃ b1 b2, veq v x = some b1 ∧ vin x vs = some b2 ∧ (b1 || b2) = b :=
 (bind_in (show (veq v x).bind _ = _ from h)).elim fun b1 q => (bind_in q.2).elim fun b2 q' => ⟨b1, b2, q.1, q'.1, Option.some.inj q'.2⟩
noncomputable def dget {K : Type} [DecidableEq K] (es : List (K × Int)) (k : K) : Option Int := (es.find? fun e => e.1 = k).map (·.2)
noncomputable def dput {K : Type} [DecidableEq K] (es : List (K × Int)) (k : K) (v : Int) : List (K × Int) :=
 if es.any (fun e => e.1 = k) then es.map (fun e => if e.1 = k then (e.1, v) else e) else es ++ [(k, v)]
noncomputable def deq (es fs : List (Int × Int)) : Bool := decide (es.length = fs.length) && es.all fun p => decide (dget fs p.1 = some p.2)
noncomputable def items (h : MH) : V → Option (List V)
 | .tup ws => some (ws.map .w)
 | .w (.loc l) => match h.get l with
  | some (.list vs) => some vs
  | _ => none
 | _ => none
noncomputable def Nm.rank : Nm → Nat
 | .nil => 0 | .accept => 1 | .dend => 2 | .undef => 3 | .S => 4 | .T => 5 | .U => 6 | .a => 7 | .b => 8 | .c => 9 | .err => 10 | .mark => 11
noncomputable def insNm (x : Nm) : List Nm → List Nm
 | [] => [x]
 | y :: ys => if x.rank < y.rank then x :: y :: ys else if x = y then y :: ys else y :: insNm x ys
noncomputable def sortNm (xs : List Nm) : List Nm := xs.foldl (fun acc x => insNm x acc) []
noncomputable def insInt (x : Int) : List Int → List Int
 | [] => [x]
 | y :: ys => if x ≤ y then x :: y :: ys else y :: insInt x ys
noncomputable def sortInt (xs : List Int) : List Int := xs.foldr insInt []
noncomputable def small (i : Int) : Prop := -(2 ^ 20 : Int) < i ∧ i < 2 ^ 20
noncomputable def room : Nat := 100000
noncomputable def onI (a b : V) (F : Int → Int → Prop) : Prop :=
 match a with
 | .w (.int x) => (match b with | .w (.int y) => F x y | _ => False)
 | _ => False
noncomputable def onW (a b : V) (F : W → W → Prop) : Prop :=
 match a with
 | .w x => (match b with | .w y => F x y | _ => False)
 | _ => False
noncomputable def addW (a b : W) (h : MH) (Q : V → MH → Prop) : Prop :=
 match a with
 | .int x => (match b with | .int y => Q (.int (x + y)) h | _ => False)
 | .loc x => (match b with | .loc y => ∃ vs ws, (h.get x = some (.list vs) ∧ h.get y = some (.list ws) ∧ vs.length + ws.length ≤ room) ∧ Q (.loc h.nxt) (h.new (.list (vs ++ ws))) | _ => False)
 | _ => False
noncomputable def mulW (a b : W) (h : MH) (Q : V → MH → Prop) : Prop :=
 match b with
 | .int n => (match a with
  | .int x => x = 2 ∧ Q (.int (x * n)) h
  | .loc x => ∃ v, (h.get x = some (.list [v]) ∧ 0 ≤ n ∧ n ≤ 1000) ∧ Q (.loc h.nxt) (h.new (.list (List.replicate n.toNat v)))
  | _ => False)
 | _ => False
noncomputable def binop (op : Bop) (a b : V) (h : MH) (Q : V → MH → Prop) : Prop :=
 match op with
 | .add => onW a b fun x y => addW x y h Q
 | .sub => onI a b fun x y => Q (.int (x - y)) h
 | .mul => onW a b fun x y => mulW x y h Q
 | .mod => onI a b fun x y => (0 < y ∧ small y) ∧ Q (.int (Int.emod x y)) h
 | .div => onI a b fun x y => (0 < y ∧ small y) ∧ Q (.int (Int.ediv x y)) h
 | .bor => onI a b fun x y => ∃ m n : Nat, (x = m ∧ y = n) ∧ Q (.int ((m ||| n : Nat) : Int)) h
 | .shl => onI a b fun x y => ∃ n : Nat, (x = 1 ∧ y = n ∧ n < 64) ∧ Q (.int ((2 ^ n : Nat) : Int)) h
 | .pow => onI a b fun x y => ∃ n : Nat, (x = 2 ∧ y = n ∧ n < 64) ∧ Q (.int ((2 ^ n : Nat) : Int)) h
noncomputable def eqW (a b : W) (h : MH) (Q : Bool → Prop) : Prop :=
 match a with
 | .loc x => (match b with | .loc y => ∃ vs, (h.get x = some (.list vs) ∧ h.get y = some (.list [])) ∧ Q (decide (vs = [])) | _ => False)
 | x => ∃ r, weq x b = some r ∧ Q r
noncomputable def neW (a b : W) (h : MH) (Q : Bool → Prop) : Prop :=
 match a with
 | .loc x => (match b with
  | .loc y => (∃ ns : List Int, (h.get x = some (.list (ns.map V.int)) ∧ h.get y = some (.list [])) ∧ Q (!decide (ns = []))) ∨
   (∃ es fs, (h.get x = some (.dict es) ∧ h.get y = some (.dict fs) ∧ es.length < 4000 ∧ fs.length < 4000) ∧ Q (!deq es fs))
  | _ => False)
 | x => ∃ r, weq x b = some r ∧ Q (!r)
noncomputable def neV (a b : V) (h : MH) (Q : Bool → Prop) : Prop :=
 match a with
 | .w x => (match b with | .w y => neW x y h Q | _ => False)
 | .tup xs => (match b with | .tup ys => ∃ ns ms : List Int, (xs = ns.map W.int ∧ ys = ms.map W.int) ∧ Q (!decide (ns = ms)) | _ => False)
 | _ => False
noncomputable def cmpop (op : Cop) (a b : V) (h : MH) (Q : Bool → Prop) : Prop :=
 match op with
 | .lt => onI a b fun x y => Q (decide (x < y))
 | .ge => onI a b fun x y => Q (decide (y ≤ x))
 | .eq => onW a b fun x y => eqW x y h Q
 | .ne => neV a b h Q
 | .in_ => (match b with | .w (.loc l) => ∃ vs b, (h.get l = some (.list vs) ∧ vin a vs = some b) ∧ Q b | _ => False)
 | .notin => (match b with | .w (.loc l) => ∃ vs b, (h.get l = some (.list vs) ∧ vin a vs = some b) ∧ Q (!b) | _ => False)
 | .isnot => (match a with | .w .none => (match b with | .w .none => Q false | _ => False) | _ => False)
theorem onI_in {F : Int → Int → Prop} {a b : V} (h : onI a b F) : ∃ x y, a = .int x ∧ b = .int y ∧ F x y := by
 cases a with
 | w a =>
  cases a with
  | int x =>
   cases b with
   | w b =>
    cases b with
    | int y => exact ⟨_, _, rfl, rfl, h⟩
    | _ => exact h.elim
   | _ => exact h.elim
  | _ => exact h.elim
 | _ => exact h.elim
theorem onW_in {F : W → W → Prop} {a b : V} (h : onW a b F) : ∃ x y, a = .w x ∧ b = .w y ∧ F x y := by
 cases a with
 | w x =>
  cases b with
  | w y => exact ⟨_, _, rfl, rfl, h⟩
  | _ => exact h.elim
 | _ => exact h.elim
noncomputable def subop (a b : V) (h : MH) (Q : V → Prop) : Prop :=
 match a with
 | .w (.loc l) => (∃ vs i v, (h.get l = some (.list vs) ∧ b = .int i ∧ 0 ≤ i ∧ small i ∧ vs[i.toNat]? = some v) ∧ Q v) ∨
   (∃ es i v, (h.get l = some (.dict es) ∧ b = .int i ∧ dget es i = some v) ∧ Q (.int v)) ∨
   (∃ es n v, (h.get l = some (.sdict es) ∧ b = .str n ∧ dget es n = some v) ∧ Q (.int v))
 | .tup ws => (match b with
  | .w (.int i) => ∃ v, (0 ≤ i ∧ small i ∧ ws[i.toNat]? = some v) ∧ Q (.w v)
  | _ => False)
 | _ => False
noncomputable def cutTo {α : Type} (xs : List α) (n : Int) : List α := if 0 ≤ n then xs.take n.toNat else xs.take (xs.length - (-n).toNat)
noncomputable def slToop (a b : V) (h : MH) (Q : V → MH → Prop) : Prop :=
 match b with
 | .w (.int n) => (match a with
  | .w (.loc l) => ∃ vs, (h.get l = some (.list vs) ∧ small n ∧ vs.length ≤ room) ∧ Q (.loc h.nxt) (h.new (.list (cutTo vs n)))
  | .tup ws => (0 ≤ n ∧ n < ws.length ∧ ws.length ≤ room) ∧ Q (.tup (ws.take n.toNat)) h
  | .old a => ∃ ns, (h.old a = some ns ∧ small n ∧ ns.length ≤ room) ∧ Q (.loc h.nxt) (h.new (.list (cutTo (ns.map V.int) n)))
  | _ => False)
 | _ => False
noncomputable def slFromop (a b : V) (h : MH) (Q : V → MH → Prop) : Prop :=
 match b with
 | .w (.int n) => (match a with
  | .w (.loc l) => ∃ vs, (h.get l = some (.list vs) ∧ 0 ≤ n ∧ small n ∧ vs.length ≤ room) ∧ Q (.loc h.nxt) (h.new (.list (vs.drop n.toNat)))
  | .tup ws => (1 ≤ n ∧ n ≤ ws.length ∧ ws.length ≤ room) ∧ Q (.tup (ws.drop n.toNat)) h
  | _ => False)
 | _ => False
noncomputable def b1op (op : B1) (a : V) (h : MH) (Q : V → MH → Prop) : Prop :=
 match op with
 | .len => ∃ vs, (items h a = some vs ∧ vs.length ≤ room) ∧ Q (.int vs.length) h
 | .list => ∃ vs, (items h a = some vs ∧ vs.length ≤ room) ∧ Q (.loc h.nxt) (h.new (.list vs))
 | .tuple => ∃ (l : Nat) (vs : List V) (ws : List W), (a = .loc l ∧ h.get l = some (.list vs) ∧ vs = ws.map V.w ∧ vs.length ≤ room) ∧ Q (.tup ws) h
 | .int => (∃ i, a = .int i ∧ Q (.int i) h) ∨ (∃ b : Bool, a = .bool b ∧ Q (.int (if b then 1 else 0)) h)
 | .abs => ∃ i, a = .int i ∧ Q (.int (i.natAbs : Int)) h
 | .sum => ∃ (l : Nat) (vs : List V) (ns : List Int), (a = .loc l ∧ h.get l = some (.list vs) ∧ vs = ns.map V.int ∧ vs.length ≤ 100) ∧ Q (.int ns.sum) h
 | .dict => (∃ l es, (a = .loc l ∧ h.get l = some (.dict es) ∧ es.length ≤ 1000) ∧ Q (.loc h.nxt) (h.new (.dict es))) ∨
   (∃ (l : Nat) (vs : List V) (ps : List (Nm × Int)), (a = .loc l ∧ h.get l = some (.list vs) ∧ vs = ps.map (fun p : Nm × Int => V.tup [.str p.1, .int p.2]) ∧ vs.length ≤ 1000) ∧
    Q (.loc h.nxt) (h.new (.sdict (ps.foldl (fun es p => dput es p.1 p.2) []))))
 | .sortedKeys => ∃ (l : Nat) (es : List (Int × Int)), (a = .loc l ∧ h.get l = some (.dict es) ∧ es.length < 64) ∧ Q (.loc h.nxt) (h.new (.list ((sortInt (es.map (·.1))).map .int)))
 | .sortedSet => ∃ (l : Nat) (vs : List V) (ns : List Nm), (a = .loc l ∧ h.get l = some (.list vs) ∧ vs = ns.map V.str ∧ vs.length < 1000) ∧ Q (.loc h.nxt) (h.new (.list ((sortNm ns).map .str)))
noncomputable def fieldOf : Cl → Fd → Bool
 | .rule, f => f == .number || f == .left || f == .right || f == .level_of || f == .action || f == .line || f == .before
 | .grammar, f => f == .names || f == .terminal_count || f == .rules || f == .levels || f == .expect || f == .start || f == .by_left || f == .offsets || f == .owners || f == .item_count
noncomputable def appendop (o a : V) (h : MH) (Q : V → MH → Prop) : Prop := ∃ l vs, (o = .loc l ∧ h.get l = some (.list vs) ∧ vs.length ≤ room) ∧ Q .none (h.set l (.list (vs ++ [a])))
noncomputable def extendop (o a : V) (h : MH) (Q : V → MH → Prop) : Prop := ∃ l k vs ws, (o = .loc l ∧ a = .loc k ∧ h.get l = some (.list vs) ∧ h.get k = some (.list ws) ∧ vs.length + ws.length ≤ room) ∧ Q .none (h.set l (.list (vs ++ ws)))
noncomputable def pop0op (o : V) (h : MH) (Q : V → MH → Prop) : Prop := ∃ l v vs, (o = .loc l ∧ h.get l = some (.list (v :: vs)) ∧ vs.length < room) ∧ Q v (h.set l (.list vs))
noncomputable def getop (o k d : V) (h : MH) (Q : V → MH → Prop) : Prop := ∃ l es i n, (o = .loc l ∧ k = .int i ∧ d = .int n ∧ h.get l = some (.dict es)) ∧ Q (.int ((dget es i).getD n)) h
noncomputable def indexop (o a : V) (h : MH) (Q : V → MH → Prop) : Prop := ∃ (l : Nat) (ns : List Nm) (n : Nm), (o = .loc l ∧ a = .str n ∧ h.get l = some (.list (ns.map V.str)) ∧ n ∈ ns ∧ ns.length ≤ 1000) ∧ Q (.int ((ns.idxOf n : Nat) : Int)) h
noncomputable def setSubop (a i v : V) (h : MH) (Q : MH → Prop) : Prop :=
 (∃ l vs n, (a = .loc l ∧ i = .int n ∧ h.get l = some (.list vs) ∧ 0 ≤ n ∧ small n ∧ n < vs.length) ∧ Q (h.set l (.list (vs.set n.toNat v)))) ∨
 (∃ l es n m, (a = .loc l ∧ i = .int n ∧ v = .int m ∧ h.get l = some (.dict es) ∧ es.length ≤ 1000) ∧ Q (h.set l (.dict (dput es n m))))
noncomputable def setAttrop (o : V) (f : Fd) (v : V) (h : MH) (Q : MH → Prop) : Prop :=
 ∃ l c fs, (o = .loc l ∧ h.get l = some (.inst c fs) ∧ fieldOf c f = true) ∧ Q (h.set l (.inst c fun g => if g = f then some v else fs g))
noncomputable def attrop (o : V) (f : Fd) (h : MH) (Q : V → Prop) : Prop := ∃ l c fs v, (o = .loc l ∧ h.get l = some (.inst c fs) ∧ fieldOf c f = true ∧ fs f = some v) ∧ Q v
abbrev Env := Vr → Option V
noncomputable def upd (e : Env) (x : Vr) (v : V) : Env := fun y => if y = x then some v else e y
noncomputable def updW (e : Env) : List Vr → List W → Option Env
 | [], [] => some e
 | x :: xs, w :: ws => updW (upd e x (.w w)) xs ws
 | _, _ => none
noncomputable def bindT (e : Env) (xs : List Vr) (v : V) : Option Env :=
 match xs, v with
 | [x], v => some (upd e x v)
 | xs, .tup ws => updW e xs ws
 | _, _ => none
abbrev CS := Fn → List V → MH → (V → MH → Prop) → Prop
inductive Src
 | seq (v : V) | range (n : Int) | enum (v : V)
noncomputable def Src.at (s : Src) (e : Env) (xs : List Vr) (h : MH) (i : Nat) (done : Prop) (K : Env → Prop) : Prop :=
 match s with
 | .seq v => ∃ vs, items h v = some vs ∧ ((vs.length ≤ i ∧ done) ∨ ∃ x e', (vs[i]? = some x ∧ bindT e xs x = some e') ∧ K e')
 | .range n => ((n ≤ i) ∧ done) ∨ ∃ x, ((i : Int) < n ∧ small n ∧ xs = [x]) ∧ K (upd e x (.int i))
 | .enum v => ∃ l vs, (v = .loc l ∧ h.get l = some (.list vs)) ∧ ((vs.length ≤ i ∧ done) ∨ ∃ x y z, (vs[i]? = some x ∧ xs = [y, z] ∧ y ≠ z ∧ vs.length ≤ room) ∧ K (upd (upd e y (.int i)) z x))
noncomputable def wFor {α : Type} (env : α → Env) (s : Src) (xs : List Vr) (step : Env → α → MH → (α → MH → Prop) → Prop) : Nat → Nat → α → MH → (α → MH → Prop) → Prop
 | 0, _, _, _, _ => False
 | n + 1, i, a, h, Q => s.at (env a) xs h i (Q a h) fun e => step e a h fun a' h' => wFor env s xs step n (i + 1) a' h' Q
inductive HasV (o : Option V) (P : V → Prop) : Prop
 | mk (v : V) (h : o = some v) (q : P v)
inductive Fl | next | cont | ret (v : V)
mutual
noncomputable def wE (C : CS) : E → Env → MH → (V → MH → Prop) → Prop
 | .none, _, h, Q => Q .none h
 | .bool b, _, h, Q => Q (.bool b) h
 | .int i, _, h, Q => Q (.int i) h
 | .str s, _, h, Q => Q (.str s) h
 | .negOne, _, h, Q => Q (.int (-1)) h
 | .var x, e, h, Q => HasV (e x) fun v => Q v h
 | .gEnd, _, h, Q => Q (.int 0) h
 | .gOwn, _, h, Q => Q (.tup [.str .dend, .str .err, .str .undef]) h
 | .bin op a b, e, h, Q => wE C a e h fun va h1 => wE C b e h1 fun vb h2 => binop op va vb h2 Q
 | .cmp op a b, e, h, Q => wE C a e h fun va h1 => wE C b e h1 fun vb h2 => cmpop op va vb h2 fun r => Q (.bool r) h2
 | .ite t a b, e, h, Q => wT C t e h fun r h1 => if r = true then wE C a e h1 Q else wE C b e h1 Q
 | .list es, e, h, Q => wEs C es e h fun vs h1 => vs.length ≤ 100 ∧ Q (.loc h1.nxt) (h1.new (.list vs))
 | .tup es, e, h, Q => wEs C es e h fun vs h1 => ∃ ws, (vs = ws.map V.w ∧ ws.length ≤ 100) ∧ Q (.tup ws) h1
 | .dict0, _, h, Q => Q (.loc h.nxt) (h.new (.dict []))
 | .attr a f, e, h, Q => wE C a e h fun va h1 => attrop va f h1 fun r => Q r h1
 | .sub a b, e, h, Q => wE C a e h fun va h1 => wE C b e h1 fun vb h2 => subop va vb h2 fun r => Q r h2
 | .slTo a b, e, h, Q => wE C a e h fun va h1 => wE C b e h1 fun vb h2 => slToop va vb h2 Q
 | .slFrom a b, e, h, Q => wE C a e h fun va h1 => wE C b e h1 fun vb h2 => slFromop va vb h2 Q
 | .call f es, e, h, Q => wEs C es e h fun vs h1 => C f vs h1 Q
 | .meth f o es, e, h, Q => wE C o e h fun vo h1 => (∃ l fs, vo = .loc l ∧ h1.get l = some (.inst .grammar fs) ∧ fs .number = none) ∧ wEs C es e h1 fun vs h2 => C f (vo :: vs) h2 Q
 | .mk c es, e, h, Q => wEs C es e h fun vs h1 => C (match c with | .rule => .ruleInit | .grammar => .grammarInit) (.loc h1.nxt :: vs) (h1.new (.inst c fun _ => Option.none)) fun r h2 => r = .none ∧ Q (.loc h1.nxt) h2
 | .append o a, e, h, Q => wE C o e h fun vo h1 => (∃ l vs, vo = .loc l ∧ h1.get l = some (.list vs)) ∧ wE C a e h1 fun va h2 => appendop vo va h2 Q
 | .extend o a, e, h, Q => wE C o e h fun vo h1 => (∃ l vs, vo = .loc l ∧ h1.get l = some (.list vs)) ∧ wE C a e h1 fun va h2 => extendop vo va h2 Q
 | .pop0 o, e, h, Q => wE C o e h fun vo h1 => pop0op vo h1 Q
 | .get o k d, e, h, Q => wE C o e h fun vo h1 => (∃ l es, vo = .loc l ∧ h1.get l = some (.dict es)) ∧ wE C k e h1 fun vk h2 => wE C d e h2 fun vd h3 => getop vo vk vd h3 Q
 | .index o a, e, h, Q => wE C o e h fun vo h1 => (∃ l vs, vo = .loc l ∧ h1.get l = some (.list vs)) ∧ wE C a e h1 fun va h2 => indexop vo va h2 Q
 | .b1 op a, e, h, Q => wE C a e h fun va h1 => b1op op va h1 Q
 | .max2 a b, e, h, Q => wE C a e h fun va h1 => wE C b e h1 fun vb h2 => ∃ x y, (va = .int x ∧ vb = .int y) ∧ Q (.int (max x y)) h2
 | .comp elt xs it c, e, h, Q => wIt C it e h fun s h1 => ∃ n,
   wFor (fun _ => e) s xs (fun e' acc h2 K => wT C c e' h2 fun r h3 => if r = true then wE C elt e' h3 fun v h4 => acc.length ≤ room ∧ K (acc ++ [v]) h4 else K acc h3) n 0 [] h1
    fun acc h2 => Q (.loc h2.nxt) (h2.new (.list acc))
noncomputable def wT (C : CS) : T → Env → MH → (Bool → MH → Prop) → Prop
 | .tt, _, h, Q => Q true h
 | .not t, e, h, Q => wT C t e h fun r h1 => Q (!r) h1
 | .and a b, e, h, Q => wT C a e h fun r h1 => if r = true then wT C b e h1 Q else Q false h1
 | .or a b, e, h, Q => wT C a e h fun r h1 => if r = true then Q true h1 else wT C b e h1 Q
 | .cmp op a b, e, h, Q => wE C a e h fun va h1 => wE C b e h1 fun vb h2 => cmpop op va vb h2 fun r => Q r h2
 | .val x, e, h, Q => wE C x e h fun v h1 => ∃ b, v = .bool b ∧ Q b h1
 | .badName x, e, h, Q => (∃ n, e x = some (.str n) ∧ (n = .S ∨ n = .T ∨ n = .U)) ∧ Q false h
noncomputable def wEs (C : CS) : Es → Env → MH → (List V → MH → Prop) → Prop
 | .nil, _, h, Q => Q [] h
 | .cons x xs, e, h, Q => wE C x e h fun v h1 => wEs C xs e h1 fun vs h2 => Q (v :: vs) h2
noncomputable def wIt (C : CS) : It → Env → MH → (Src → MH → Prop) → Prop
 | .seq x, e, h, Q => wE C x e h fun v h1 => Q (.seq v) h1
 | .range x, e, h, Q => wE C x e h fun v h1 => ∃ n, (v = .int n ∧ small n) ∧ Q (.range n) h1
 | .enum x, e, h, Q => wE C x e h fun v h1 => Q (.enum v) h1
end
noncomputable def wWhile (test : Env → MH → (Bool → MH → Prop) → Prop) (body : Env → MH → (Env → MH → Prop) → Prop) : Nat → Env → MH → (Env → MH → Prop) → Prop
 | 0, _, _, _ => False
 | n + 1, e, h, Q => test e h fun r h1 => if r = true then body e h1 fun e' h' => wWhile test body n e' h' Q else Q e h1
mutual
noncomputable def wS (C : CS) : S → Env → MH → (Fl → Env → MH → Prop) → Prop
 | .assign x a, e, h, Q => wE C a e h fun v h1 => Q .next (upd e x v) h1
 | .assign2 x y a b, e, h, Q => wE C a e h fun va h1 => wE C b e h1 fun vb h2 => ∃ wa wb, (x ≠ y ∧ va = .w wa ∧ vb = .w wb) ∧ Q .next (upd (upd e x va) y vb) h2
 | .unpack xs a, e, h, Q => wE C a e h fun v h1 => ∃ ws e', (v = .tup ws ∧ updW e xs ws = some e') ∧ Q .next e' h1
 | .setSub a i v, e, h, Q => wE C v e h fun vv h1 => wE C a e h1 fun va h2 => wE C i e h2 fun vi h3 => setSubop va vi vv h3 fun h4 => Q .next e h4
 | .setAttr f v, e, h, Q => wE C v e h fun vv h1 => HasV (e .self) fun o => setAttrop o f vv h1 fun h2 => Q .next e h2
 | .expr a, e, h, Q => wE C a e h fun v h1 => v = .none ∧ Q .next e h1
 | .ret a, e, h, Q => wE C a e h fun v h1 => Q (.ret v) e h1
 | .cont, e, h, Q => Q .cont e h
 | .raise, _, _, _ => False
 | .ite t a b, e, h, Q => wT C t e h fun r h1 => if r = true then wSs C a e h1 Q else wSs C b e h1 Q
 | .while_ t b, e, h, Q => ∃ n, wWhile (fun e h K => wT C t e h K) (fun e h K => wSs C b e h fun fl e' h' => match fl with | .ret v => Q (.ret v) e' h' | _ => K e' h') n e h fun e' h' => Q .next e' h'
 | .for_ xs it b, e, h, Q => wIt C it e h fun s h1 => ∃ n,
   wFor (fun e => e) s xs (fun e' _ h K => wSs C b e' h fun fl e' h' => match fl with | .ret v => Q (.ret v) e' h' | _ => K e' h') n 0 e h1 fun e' h' => Q .next e' h'
noncomputable def wSs (C : CS) : Ss → Env → MH → (Fl → Env → MH → Prop) → Prop
 | .nil, e, h, Q => Q .next e h
 | .cons s ss, e, h, Q => wS C s e h fun fl e' h' => match fl with | .next => wSs C ss e' h' Q | fl => Q fl e' h'
end
noncomputable def env0 : Env := fun _ => none
noncomputable def bindE : List Vr → List V → Option Env
 | [], [] => some env0
 | x :: xs, v :: vs => (bindE xs vs).map fun e => upd e x v
 | _, _ => none
noncomputable def bindA (xs : List Vr) (vs ds : List V) : Option Env := bindE xs (vs ++ ds)
structure Def where
 params : List Vr
 dflts : List V
 body : Ss
noncomputable def CL (D : Fn → Def) : Nat → CS
 | 0, _, _, _, _ => False
 | n + 1, f, vs, h, Q => ∃ e, bindA (D f).params vs (D f).dflts = some e ∧ wSs (CL D n) (D f).body e h fun fl _ h' => match fl with
  | .ret v => Q v h'
  | .next => Q .none h'
  | .cont => False
section
variable {C : CS} {e : Env} {h : MH}
theorem EA {Q} : wE C .none e h Q = Q .none h := rfl
theorem EB {b Q} : wE C (.bool b) e h Q = Q (.bool b) h := rfl
theorem EC {i Q} : wE C (.int i) e h Q = Q (.int i) h := rfl
theorem ED {s Q} : wE C (.str s) e h Q = Q (.str s) h := rfl
theorem EE {Q} : wE C .negOne e h Q = Q (.int (-1)) h := rfl
theorem EF {x Q} : wE C (.var x) e h Q = (HasV (e x) fun v => Q v h) := rfl
theorem EG {Q} : wE C .gEnd e h Q = Q (.int 0) h := rfl
theorem EH {Q} : wE C .gOwn e h Q = Q (.tup [.str .dend, .str .err, .str .undef]) h := rfl
theorem EI {op a b Q} : wE C (.bin op a b) e h Q = wE C a e h fun va h1 => wE C b e h1 fun vb h2 => binop op va vb h2 Q := rfl
theorem EJ {op a b Q} : wE C (.cmp op a b) e h Q = wE C a e h fun va h1 => wE C b e h1 fun vb h2 => cmpop op va vb h2 fun r => Q (.bool r) h2 := rfl
theorem EK {t a b Q} : wE C (.ite t a b) e h Q = wT C t e h fun r h1 => if r = true then wE C a e h1 Q else wE C b e h1 Q := rfl
theorem EL {es Q} : wE C (.list es) e h Q = wEs C es e h fun vs h1 => vs.length ≤ 100 ∧ Q (.loc h1.nxt) (h1.new (.list vs)) := rfl
theorem EM {es Q} : wE C (.tup es) e h Q = wEs C es e h fun vs h1 => ∃ ws, (vs = ws.map V.w ∧ ws.length ≤ 100) ∧ Q (.tup ws) h1 := rfl
theorem EN {Q} : wE C .dict0 e h Q = Q (.loc h.nxt) (h.new (.dict [])) := rfl
theorem EO {a f Q} : wE C (.attr a f) e h Q = wE C a e h fun va h1 => attrop va f h1 fun r => Q r h1 := rfl
theorem EP {a b Q} : wE C (.sub a b) e h Q = wE C a e h fun va h1 => wE C b e h1 fun vb h2 => subop va vb h2 fun r => Q r h2 := rfl
theorem EQ {a b Q} : wE C (.slTo a b) e h Q = wE C a e h fun va h1 => wE C b e h1 fun vb h2 => slToop va vb h2 Q := rfl
theorem ER {a b Q} : wE C (.slFrom a b) e h Q = wE C a e h fun va h1 => wE C b e h1 fun vb h2 => slFromop va vb h2 Q := rfl
theorem ES {f es Q} : wE C (.call f es) e h Q = wEs C es e h fun vs h1 => C f vs h1 Q := rfl
theorem ET {f o es Q} : wE C (.meth f o es) e h Q = wE C o e h fun vo h1 => (∃ l fs, vo = .loc l ∧ h1.get l = some (.inst .grammar fs) ∧ fs .number = none) ∧ wEs C es e h1 fun vs h2 => C f (vo :: vs) h2 Q := rfl
theorem EU {c es Q} : wE C (.mk c es) e h Q = wEs C es e h fun vs h1 => C (match c with | .rule => .ruleInit | .grammar => .grammarInit) (.loc h1.nxt :: vs) (h1.new (.inst c fun _ => Option.none)) fun r h2 => r = .none ∧ Q (.loc h1.nxt) h2 := rfl
theorem EV {o a Q} : wE C (.append o a) e h Q = wE C o e h fun vo h1 => (∃ l vs, vo = .loc l ∧ h1.get l = some (.list vs)) ∧ wE C a e h1 fun va h2 => appendop vo va h2 Q := rfl
theorem EW {o a Q} : wE C (.extend o a) e h Q = wE C o e h fun vo h1 => (∃ l vs, vo = .loc l ∧ h1.get l = some (.list vs)) ∧ wE C a e h1 fun va h2 => extendop vo va h2 Q := rfl
theorem EX {o Q} : wE C (.pop0 o) e h Q = wE C o e h fun vo h1 => pop0op vo h1 Q := rfl
theorem EY {o k d Q} : wE C (.get o k d) e h Q = wE C o e h fun vo h1 => (∃ l es, vo = .loc l ∧ h1.get l = some (.dict es)) ∧ wE C k e h1 fun vk h2 => wE C d e h2 fun vd h3 => getop vo vk vd h3 Q := rfl
theorem EZ {o a Q} : wE C (.index o a) e h Q = wE C o e h fun vo h1 => (∃ l vs, vo = .loc l ∧ h1.get l = some (.list vs)) ∧ wE C a e h1 fun va h2 => indexop vo va h2 Q := rfl
theorem Ea {op a Q} : wE C (.b1 op a) e h Q = wE C a e h fun va h1 => b1op op va h1 Q := rfl
theorem Eb {a b Q} : wE C (.max2 a b) e h Q = wE C a e h fun va h1 => wE C b e h1 fun vb h2 => ∃ x y, (va = .int x ∧ vb = .int y) ∧ Q (.int (max x y)) h2 := rfl
theorem Ec {elt xs it c Q} : wE C (.comp elt xs it c) e h Q = wIt C it e h fun s h1 => ∃ n, wFor (fun _ => e) s xs (fun e' acc h2 K => wT C c e' h2 fun r h3 => if r = true then wE C elt e' h3 fun v h4 => acc.length ≤ room ∧ K (acc ++ [v]) h4 else K acc h3) n 0 [] h1 fun acc h2 => Q (.loc h2.nxt) (h2.new (.list acc)) := rfl
theorem JA {Q} : wT C .tt e h Q = Q true h := rfl
theorem JB {t Q} : wT C (.not t) e h Q = wT C t e h fun r h1 => Q (!r) h1 := rfl
theorem JC {a b Q} : wT C (.and a b) e h Q = wT C a e h fun r h1 => if r = true then wT C b e h1 Q else Q false h1 := rfl
theorem JD {a b Q} : wT C (.or a b) e h Q = wT C a e h fun r h1 => if r = true then Q true h1 else wT C b e h1 Q := rfl
theorem JE {op a b Q} : wT C (.cmp op a b) e h Q = wE C a e h fun va h1 => wE C b e h1 fun vb h2 => cmpop op va vb h2 fun r => Q r h2 := rfl
theorem JF {x Q} : wT C (.val x) e h Q = wE C x e h fun v h1 => ∃ b, v = .bool b ∧ Q b h1 := rfl
theorem JG {x Q} : wT C (.badName x) e h Q = ((∃ n, e x = some (.str n) ∧ (n = .S ∨ n = .T ∨ n = .U)) ∧ Q false h) := rfl
theorem UA {Q} : wEs C .nil e h Q = Q [] h := rfl
theorem UB {x xs Q} : wEs C (.cons x xs) e h Q = wE C x e h fun v h1 => wEs C xs e h1 fun vs h2 => Q (v :: vs) h2 := rfl
theorem UC {x Q} : wIt C (.seq x) e h Q = wE C x e h fun v h1 => Q (.seq v) h1 := rfl
theorem UD {x Q} : wIt C (.range x) e h Q = wE C x e h fun v h1 => ∃ n, (v = .int n ∧ small n) ∧ Q (.range n) h1 := rfl
theorem UE {x Q} : wIt C (.enum x) e h Q = wE C x e h fun v h1 => Q (.enum v) h1 := rfl
theorem YA {x a Q} : wS C (.assign x a) e h Q = wE C a e h fun v h1 => Q .next (upd e x v) h1 := rfl
theorem YB {x y a b Q} : wS C (.assign2 x y a b) e h Q = wE C a e h fun va h1 => wE C b e h1 fun vb h2 => ∃ wa wb, (x ≠ y ∧ va = .w wa ∧ vb = .w wb) ∧ Q .next (upd (upd e x va) y vb) h2 := rfl
theorem YC {xs a Q} : wS C (.unpack xs a) e h Q = wE C a e h fun v h1 => ∃ ws e', (v = .tup ws ∧ updW e xs ws = some e') ∧ Q .next e' h1 := rfl
theorem YD {a i v Q} : wS C (.setSub a i v) e h Q = wE C v e h fun vv h1 => wE C a e h1 fun va h2 => wE C i e h2 fun vi h3 => setSubop va vi vv h3 fun h4 => Q .next e h4 := rfl
theorem YE {f v Q} : wS C (.setAttr f v) e h Q = wE C v e h fun vv h1 => HasV (e .self) fun o => setAttrop o f vv h1 fun h2 => Q .next e h2 := rfl
theorem YF {a Q} : wS C (.expr a) e h Q = wE C a e h fun v h1 => v = .none ∧ Q .next e h1 := rfl
theorem YG {a Q} : wS C (.ret a) e h Q = wE C a e h fun v h1 => Q (.ret v) e h1 := rfl
theorem YH {Q} : wS C .cont e h Q = Q .cont e h := rfl
theorem YI {Q} : wS C .raise e h Q = False := rfl
theorem YJ {t a b Q} : wS C (.ite t a b) e h Q = wT C t e h fun r h1 => if r = true then wSs C a e h1 Q else wSs C b e h1 Q := rfl
theorem YK {t b Q} : wS C (.while_ t b) e h Q = (∃ n, wWhile (fun e h K => wT C t e h K) (fun e h K => wSs C b e h fun fl e' h' => match fl with | .ret v => Q (.ret v) e' h' | _ => K e' h') n e h fun e' h' => Q .next e' h') := rfl
theorem YL {xs it b Q} : wS C (.for_ xs it b) e h Q = wIt C it e h fun s h1 => ∃ n, wFor (fun e => e) s xs (fun e' _ h K => wSs C b e' h fun fl e' h' => match fl with | .ret v => Q (.ret v) e' h' | _ => K e' h') n 0 e h1 fun e' h' => Q .next e' h' := rfl
theorem UF {Q} : wSs C .nil e h Q = Q .next e h := rfl
theorem UG {s ss Q} : wSs C (.cons s ss) e h Q = wS C s e h fun fl e' h' => match fl with | .next => wSs C ss e' h' Q | fl => Q fl e' h' := rfl
end
end Mine
end
section
namespace Mine
noncomputable def body_spread : Ss :=
 .cons (.assign .found (.b1 .list (.var .known))) <|
 .cons (.assign .lacking (.list .nil)) <|
 .cons (.assign .users (.comp (.list .nil) [.symbol] (.seq (.var .found)) .tt)) <|
 .cons (.assign .queue (.list .nil)) <|
 .cons (.for_ [.rule] (.seq (.attr (.var .grammar) .rules)) (.cons (.assign .missing (.int 0)) (.cons (.for_ [.symbol] (.seq (.attr (.var .rule) .right)) (.cons (.ite (.not (.val (.sub (.var .found) (.var .symbol)))) (.cons (.assign .missing (.bin .add (.var .missing) (.int 1))) (.cons (.expr (.append (.sub (.var .users) (.var .symbol)) (.attr (.var .rule) .number))) .nil)) .nil) .nil)) (.cons (.expr (.append (.var .lacking) (.var .missing))) .nil)))) <|
 .cons (.for_ [.rule] (.seq (.attr (.var .grammar) .rules)) (.cons (.ite (.and (.cmp .eq (.sub (.var .lacking) (.attr (.var .rule) .number)) (.int 0)) (.not (.val (.sub (.var .found) (.attr (.var .rule) .left))))) (.cons (.setSub (.var .found) (.attr (.var .rule) .left) (.bool true)) (.cons (.expr (.append (.var .queue) (.attr (.var .rule) .left))) .nil)) .nil) .nil)) <|
 .cons (.assign .at_ (.int 0)) <|
 .cons (.while_ (.cmp .lt (.var .at_) (.b1 .len (.var .queue))) (.cons (.for_ [.number] (.seq (.sub (.var .users) (.sub (.var .queue) (.var .at_)))) (.cons (.setSub (.var .lacking) (.var .number) (.bin .sub (.sub (.var .lacking) (.var .number)) (.int 1))) (.cons (.assign .left (.attr (.sub (.attr (.var .grammar) .rules) (.var .number)) .left)) (.cons (.ite (.and (.cmp .eq (.sub (.var .lacking) (.var .number)) (.int 0)) (.not (.val (.sub (.var .found) (.var .left))))) (.cons (.setSub (.var .found) (.var .left) (.bool true)) (.cons (.expr (.append (.var .queue) (.var .left))) .nil)) .nil) .nil)))) (.cons (.assign .at_ (.bin .add (.var .at_) (.int 1))) .nil))) <|
 .cons (.ret (.var .found)) <|
 .nil
noncomputable def body_nullable : Ss :=
 .cons (.ret (.call .spread (.cons (.var .grammar) (.cons (.bin .mul (.list (.cons (.bool false) .nil)) (.meth .symbol_count (.var .grammar) .nil)) .nil)))) <|
 .nil
noncomputable def body_first_of : Ss :=
 .cons (.assign .mask (.int 0)) <|
 .cons (.for_ [.symbol] (.seq (.var .symbols)) (.cons (.assign .mask (.bin .bor (.var .mask) (.sub (.var .firsts) (.var .symbol)))) (.cons (.ite (.not (.val (.sub (.var .nullables) (.var .symbol)))) (.cons (.ret (.tup (.cons (.var .mask) (.cons (.bool false) .nil)))) .nil) .nil) .nil))) <|
 .cons (.ret (.tup (.cons (.var .mask) (.cons (.bool true) .nil)))) <|
 .nil
noncomputable def body_first_masks : Ss :=
 .cons (.assign .nullables (.call .nullable (.cons (.var .grammar) .nil))) <|
 .cons (.assign .firsts (.list .nil)) <|
 .cons (.for_ [.symbol] (.range (.meth .symbol_count (.var .grammar) .nil)) (.cons (.expr (.append (.var .firsts) (.ite (.val (.meth .is_terminal (.var .grammar) (.cons (.var .symbol) .nil))) (.bin .shl (.int 1) (.var .symbol)) (.int 0)))) .nil)) <|
 .cons (.assign .is_grown (.bool true)) <|
 .cons (.while_ (.val (.var .is_grown)) (.cons (.assign .is_grown (.bool false)) (.cons (.for_ [.rule] (.seq (.attr (.var .grammar) .rules)) (.cons (.assign .mask (.bin .bor (.sub (.var .firsts) (.attr (.var .rule) .left)) (.sub (.call .first_of (.cons (.attr (.var .rule) .right) (.cons (.var .nullables) (.cons (.var .firsts) .nil)))) (.int 0)))) (.cons (.ite (.cmp .ne (.var .mask) (.sub (.var .firsts) (.attr (.var .rule) .left))) (.cons (.setSub (.var .firsts) (.attr (.var .rule) .left) (.var .mask)) (.cons (.assign .is_grown (.bool true)) .nil)) .nil) .nil))) .nil))) <|
 .cons (.ret (.var .firsts)) <|
 .nil
noncomputable def body_spread_items : Ss :=
 .cons (.assign .found (.b1 .dict (.var .begins))) <|
 .cons (.assign .line (.b1 .sortedKeys (.var .begins))) <|
 .cons (.assign .at_ (.int 0)) <|
 .cons (.while_ (.cmp .lt (.var .at_) (.b1 .len (.var .line))) (.cons (.assign .item (.sub (.var .line) (.var .at_))) (.cons (.assign .at_ (.bin .add (.var .at_) (.int 1))) (.cons (.assign .symbol (.meth .after (.var .grammar) (.cons (.var .item) .nil))) (.cons (.ite (.or (.cmp .lt (.var .symbol) (.int 0)) (.val (.meth .is_terminal (.var .grammar) (.cons (.var .symbol) .nil)))) (.cons .cont .nil) .nil) (.cons (.assign .right (.attr (.sub (.attr (.var .grammar) .rules) (.meth .rule_of (.var .grammar) (.cons (.var .item) .nil))) .right)) (.cons (.unpack [.mask, .is_open] (.call .first_of (.cons (.slFrom (.var .right) (.bin .add (.meth .dot_of (.var .grammar) (.cons (.var .item) .nil)) (.int 1))) (.cons (.var .nullables) (.cons (.var .firsts) .nil))))) (.cons (.ite (.val (.var .is_open)) (.cons (.assign .mask (.bin .bor (.var .mask) (.sub (.var .found) (.var .item)))) .nil) .nil) (.cons (.for_ [.rule] (.seq (.meth .rules_of (.var .grammar) (.cons (.var .symbol) .nil))) (.cons (.assign .later (.meth .gitem (.var .grammar) (.cons (.var .rule) (.cons (.int 0) .nil)))) (.cons (.assign .known (.get (.var .found) (.var .later) .negOne)) (.cons (.ite (.or (.cmp .eq (.var .known) .negOne) (.cmp .ne (.bin .bor (.var .known) (.var .mask)) (.var .known))) (.cons (.setSub (.var .found) (.var .later) (.ite (.cmp .eq (.var .known) .negOne) (.var .mask) (.bin .bor (.var .known) (.var .mask)))) (.cons (.expr (.append (.var .line) (.var .later))) .nil)) .nil) .nil)))) .nil))))))))) <|
 .cons (.ret (.var .found)) <|
 .nil
noncomputable def body_ruleInit : Ss :=
 .cons (.setAttr .number (.var .number)) <|
 .cons (.setAttr .left (.var .left)) <|
 .cons (.setAttr .right (.var .right)) <|
 .cons (.setAttr .level_of (.var .level_of)) <|
 .cons (.setAttr .action (.var .action)) <|
 .cons (.setAttr .line (.var .line)) <|
 .cons (.setAttr .before (.var .before)) <|
 .nil
noncomputable def body_grammarInit : Ss :=
 .cons (.setAttr .names (.var .names)) <|
 .cons (.setAttr .terminal_count (.var .terminal_count)) <|
 .cons (.setAttr .rules (.var .rules)) <|
 .cons (.setAttr .levels (.var .levels)) <|
 .cons (.setAttr .expect (.var .expect)) <|
 .cons (.setAttr .start (.var .start)) <|
 .cons (.setAttr .by_left (.comp (.list .nil) [.name] (.seq (.attr (.var .self) .names)) .tt)) <|
 .cons (.setAttr .offsets (.list .nil)) <|
 .cons (.setAttr .owners (.list .nil)) <|
 .cons (.for_ [.rule] (.seq (.attr (.var .self) .rules)) (.cons (.expr (.append (.sub (.attr (.var .self) .by_left) (.attr (.var .rule) .left)) (.attr (.var .rule) .number))) (.cons (.expr (.append (.attr (.var .self) .offsets) (.b1 .len (.attr (.var .self) .owners)))) (.cons (.expr (.extend (.attr (.var .self) .owners) (.bin .mul (.list (.cons (.attr (.var .rule) .number) .nil)) (.bin .add (.b1 .len (.attr (.var .rule) .right)) (.int 1))))) .nil)))) <|
 .cons (.setAttr .item_count (.b1 .len (.attr (.var .self) .owners))) <|
 .nil
noncomputable def body_symbol_count : Ss :=
 .cons (.ret (.b1 .len (.attr (.var .self) .names))) <|
 .nil
noncomputable def body_is_terminal : Ss :=
 .cons (.ret (.cmp .lt (.var .symbol) (.attr (.var .self) .terminal_count))) <|
 .nil
noncomputable def body_gnumber : Ss :=
 .cons (.ret (.ite (.cmp .in_ (.var .name) (.attr (.var .self) .names)) (.index (.attr (.var .self) .names) (.var .name)) .negOne)) <|
 .nil
noncomputable def body_rules_of : Ss :=
 .cons (.ret (.b1 .list (.sub (.attr (.var .self) .by_left) (.var .symbol)))) <|
 .nil
noncomputable def body_gitem : Ss :=
 .cons (.ret (.bin .add (.sub (.attr (.var .self) .offsets) (.var .rule)) (.var .dot))) <|
 .nil
noncomputable def body_rule_of : Ss :=
 .cons (.ret (.sub (.attr (.var .self) .owners) (.var .item))) <|
 .nil
noncomputable def body_dot_of : Ss :=
 .cons (.ret (.bin .sub (.var .item) (.sub (.attr (.var .self) .offsets) (.sub (.attr (.var .self) .owners) (.var .item))))) <|
 .nil
noncomputable def body_after : Ss :=
 .cons (.assign .right (.attr (.sub (.attr (.var .self) .rules) (.sub (.attr (.var .self) .owners) (.var .item))) .right)) <|
 .cons (.assign .dot (.bin .sub (.var .item) (.sub (.attr (.var .self) .offsets) (.sub (.attr (.var .self) .owners) (.var .item))))) <|
 .cons (.ret (.ite (.cmp .lt (.var .dot) (.b1 .len (.var .right))) (.sub (.var .right) (.var .dot)) .negOne)) <|
 .nil
noncomputable def body_last_terminal : Ss :=
 .cons (.assign .found .negOne) <|
 .cons (.for_ [.symbol] (.seq (.var .right)) (.cons (.ite (.cmp .lt (.var .symbol) (.var .terminal_count)) (.cons (.assign .found (.var .symbol)) .nil) .nil) .nil)) <|
 .cons (.ret (.var .found)) <|
 .nil
noncomputable def body_plain_grammar : Ss :=
 .cons (.assign .lefts (.list .nil)) <|
 .cons (.for_ [.left, .parts] (.seq (.var .pairs)) (.cons (.ite (.badName .left) (.cons .raise .nil) .nil) (.cons (.ite (.cmp .notin (.var .left) (.var .lefts)) (.cons (.expr (.append (.var .lefts) (.var .left))) .nil) .nil) .nil))) <|
 .cons (.assign .begin (.ite (.or (.cmp .isnot (.var .start) .none) (.cmp .eq (.var .lefts) (.list .nil))) (.var .start) (.sub (.var .lefts) (.int 0)))) <|
 .cons (.ite (.cmp .notin (.var .begin) (.var .lefts)) (.cons .raise .nil) .nil) <|
 .cons (.assign .names (.b1 .list .gOwn)) <|
 .cons (.for_ [.left, .parts] (.seq (.var .pairs)) (.cons (.for_ [.name] (.seq (.var .parts)) (.cons (.ite (.and (.cmp .notin (.var .name) (.var .lefts)) (.cmp .notin (.var .name) (.var .names))) (.cons (.expr (.append (.var .names) (.var .name))) .nil) .nil) .nil)) .nil)) <|
 .cons (.assign .count (.b1 .len (.var .names))) <|
 .cons (.assign .names (.bin .add (.bin .add (.var .names) (.list (.cons (.str .accept) .nil))) (.var .lefts))) <|
 .cons (.assign .rules (.list (.cons (.mk .rule (.cons (.int 0) (.cons (.var .count) (.cons (.tup (.cons (.index (.var .names) (.var .begin)) (.cons .gEnd .nil))) (.cons .gEnd .nil))))) .nil))) <|
 .cons (.for_ [.left, .parts] (.seq (.var .pairs)) (.cons (.assign .right (.b1 .tuple (.comp (.index (.var .names) (.var .name)) [.name] (.seq (.var .parts)) .tt))) (.cons (.expr (.append (.var .rules) (.mk .rule (.cons (.b1 .len (.var .rules)) (.cons (.index (.var .names) (.var .left)) (.cons (.var .right) (.cons (.call .last_terminal (.cons (.var .right) (.cons (.var .count) .nil))) .nil))))))) .nil))) <|
 .cons (.ret (.mk .grammar (.cons (.var .names) (.cons (.var .count) (.cons (.var .rules) (.cons .dict0 (.cons .none (.cons (.index (.var .names) (.var .begin)) .nil)))))))) <|
 .nil
noncomputable def body_law_pen : Ss :=
 .cons (.ret (.list (.cons (.comp (.bin .add (.bin .mul (.int 2) (.b1 .abs (.b1 .int (.var .cell)))) (.b1 .int (.cmp .lt (.var .cell) (.int 0)))) [.cell] (.seq (.slTo (.var .script) (.int 63))) .tt) (.cons (.int 0) (.cons (.int 0) .nil))))) <|
 .nil
noncomputable def body_law_draw : Ss :=
 .cons (.setSub (.var .pen) (.int 1) (.bin .add (.sub (.var .pen) (.int 1)) (.int 1))) <|
 .cons (.ite (.and (.cmp .eq (.sub (.var .pen) (.int 2)) (.int 0)) (.cmp .ne (.sub (.var .pen) (.int 0)) (.list .nil))) (.cons (.setSub (.var .pen) (.int 2) (.pop0 (.sub (.var .pen) (.int 0)))) .nil) .nil) <|
 .cons (.assign .digit (.bin .mod (.b1 .int (.sub (.var .pen) (.int 2))) (.var .many))) <|
 .cons (.setSub (.var .pen) (.int 2) (.bin .div (.b1 .int (.sub (.var .pen) (.int 2))) (.var .many))) <|
 .cons (.ret (.bin .mod (.bin .add (.var .digit) (.sub (.var .pen) (.int 1))) (.var .many))) <|
 .nil
noncomputable def body_law_pick : Ss :=
 .cons (.ret (.sub (.var .some) (.call .law_draw (.cons (.var .pen) (.cons (.b1 .len (.var .some)) .nil))))) <|
 .nil
noncomputable def body_law_pairs : Ss :=
 .cons (.assign .names (.slTo (.list (.cons (.str .S) (.cons (.str .T) (.cons (.str .U) .nil)))) (.call .law_pick (.cons (.var .pen) (.cons (.list (.cons (.int 2) (.cons (.int 1) (.cons (.int 2) (.cons (.int 3) .nil))))) .nil))))) <|
 .cons (.assign .pairs (.list .nil)) <|
 .cons (.for_ [.name] (.seq (.var .names)) (.cons (.expr (.append (.var .pairs) (.tup (.cons (.var .name) (.cons (.comp (.call .law_pick (.cons (.var .pen) (.cons (.list (.cons (.str .a) (.cons (.str .b) (.cons (.str .c) .nil)))) .nil))) [.spot] (.range (.call .law_pick (.cons (.var .pen) (.cons (.list (.cons (.int 1) (.cons (.int 0) (.cons (.int 2) (.cons (.int 1) .nil))))) .nil)))) .tt) .nil))))) .nil)) <|
 .cons (.for_ [.turn] (.range (.max2 (.int 1) (.bin .sub (.int 5) (.b1 .len (.var .names))))) (.cons (.assign2 .name .many (.call .law_pick (.cons (.var .pen) (.cons (.var .names) .nil))) (.call .law_pick (.cons (.var .pen) (.cons (.list (.cons (.int 2) (.cons (.int 3) (.cons (.int 1) (.cons (.int 2) .nil))))) .nil)))) (.cons (.expr (.append (.var .pairs) (.tup (.cons (.var .name) (.cons (.comp (.call .law_pick (.cons (.var .pen) (.cons (.bin .add (.bin .add (.list (.cons (.str .a) (.cons (.str .b) .nil))) (.var .names)) (.var .names)) .nil))) [.spot] (.range (.var .many)) .tt) .nil))))) .nil))) <|
 .cons (.ret (.var .pairs)) <|
 .nil
noncomputable def body_law_empty : Ss :=
 .cons (.assign2 .found .known (.list .nil) .negOne) <|
 .cons (.while_ (.cmp .lt (.var .known) (.b1 .len (.var .found))) (.cons (.assign .known (.b1 .len (.var .found))) (.cons (.assign .found (.b1 .sortedSet (.bin .add (.var .found) (.comp (.var .name) [.name, .parts] (.seq (.var .pairs)) (.cmp .eq (.comp (.var .part) [.part] (.seq (.var .parts)) (.cmp .notin (.var .part) (.var .found))) (.list .nil)))))) .nil))) <|
 .cons (.ret (.var .found)) <|
 .nil
noncomputable def body_law_ahead : Ss :=
 .cons (.assign .found (.list .nil)) <|
 .cons (.for_ [.part] (.seq (.var .parts)) (.cons (.assign .found (.bin .add (.var .found) (.list (.cons (.var .part) .nil)))) (.cons (.ite (.cmp .notin (.var .part) (.var .empty)) (.cons (.ret (.tup (.cons (.var .found) (.cons (.bool false) .nil)))) .nil) .nil) .nil))) <|
 .cons (.ret (.tup (.cons (.var .found) (.cons (.bool true) .nil)))) <|
 .nil
noncomputable def body_law_begins : Ss :=
 .cons (.assign2 .line .at_ (.sub (.call .law_ahead (.cons (.var .parts) (.cons (.var .empty) .nil))) (.int 0)) (.int 0)) <|
 .cons (.assign .lefts (.comp (.var .name) [.name, .body] (.seq (.var .pairs)) .tt)) <|
 .cons (.while_ (.cmp .lt (.var .at_) (.b1 .len (.var .line))) (.cons (.for_ [.name, .body] (.seq (.var .pairs)) (.cons (.ite (.cmp .eq (.var .name) (.sub (.var .line) (.var .at_))) (.cons (.assign .line (.bin .add (.var .line) (.comp (.var .one) [.one] (.seq (.sub (.call .law_ahead (.cons (.var .body) (.cons (.var .empty) .nil))) (.int 0))) (.cmp .notin (.var .one) (.var .line))))) .nil) .nil) .nil)) (.cons (.assign .at_ (.bin .add (.var .at_) (.int 1))) .nil))) <|
 .cons (.ret (.b1 .sortedSet (.comp (.var .part) [.part] (.seq (.var .line)) (.cmp .notin (.var .part) (.var .lefts))))) <|
 .nil
noncomputable def body_law_pairs_of : Ss :=
 .cons (.assign2 .line .at_ (.b1 .list (.var .begun)) (.int 0)) <|
 .cons (.while_ (.cmp .lt (.var .at_) (.b1 .len (.var .line))) (.cons (.unpack [.number, .dot, .sign] (.sub (.var .line) (.var .at_))) (.cons (.assign .parts (.sub (.sub (.var .pairs) (.var .number)) (.int 1))) (.cons (.ite (.cmp .lt (.var .dot) (.b1 .len (.var .parts))) (.cons (.assign .rest (.slFrom (.var .parts) (.bin .add (.var .dot) (.int 1)))) (.cons (.assign .signs (.bin .add (.bin .add (.call .law_begins (.cons (.var .pairs) (.cons (.var .rest) (.cons (.var .empty) .nil)))) (.ite (.val (.sub (.call .law_ahead (.cons (.var .rest) (.cons (.var .empty) .nil))) (.int 1))) (.list (.cons (.var .sign) .nil)) (.list .nil))) (.list (.cons (.str .nil) .nil)))) (.cons (.for_ [.other, .pair] (.enum (.var .pairs)) (.cons (.ite (.cmp .eq (.sub (.var .pair) (.int 0)) (.sub (.var .parts) (.var .dot))) (.cons (.assign .line (.bin .add (.var .line) (.comp (.tup (.cons (.var .other) (.cons (.int 0) (.cons (.var .one) .nil)))) [.one] (.seq (.b1 .sortedSet (.var .signs))) (.cmp .notin (.tup (.cons (.var .other) (.cons (.int 0) (.cons (.var .one) .nil)))) (.var .line))))) .nil) .nil) .nil)) .nil))) .nil) (.cons (.assign .at_ (.bin .add (.var .at_) (.int 1))) .nil))))) <|
 .cons (.ret (.var .line)) <|
 .nil
noncomputable def body_law : Ss :=
 .cons (.assign .pen (.call .law_pen (.cons (.var .script) .nil))) <|
 .cons (.assign .drawn (.call .law_pairs (.cons (.var .pen) .nil))) <|
 .cons (.ite (.cmp .eq (.call .law_draw (.cons (.var .pen) (.cons (.int 2) .nil))) (.int 0)) (.cons (.assign .drawn (.bin .add (.var .drawn) (.list (.cons (.tup (.cons (.str .S) (.cons (.list (.cons (.str .S) (.cons (.str .T) .nil))) .nil))) (.cons (.tup (.cons (.str .T) (.cons (.list .nil) .nil))) .nil))))) .nil) .nil) <|
 .cons (.assign .pairs (.bin .add (.list (.cons (.tup (.cons (.str .accept) (.cons (.list (.cons (.str .S) (.cons (.str .dend) .nil))) .nil))) .nil)) (.var .drawn))) <|
 .cons (.assign .grammar (.call .plain_grammar (.cons (.comp (.tup (.cons (.var .name) (.cons (.b1 .list (.var .parts)) .nil))) [.name, .parts] (.seq (.var .drawn)) .tt) .nil))) <|
 .cons (.assign2 .empty .mark (.call .law_empty (.cons (.var .drawn) .nil)) (.attr (.var .grammar) .terminal_count)) <|
 .cons (.assign .signs (.bin .add (.comp (.var .name) [.name] (.seq (.list (.cons (.str .dend) (.cons (.str .a) (.cons (.str .b) (.cons (.str .c) .nil)))))) (.cmp .ge (.meth .gnumber (.var .grammar) (.cons (.var .name) .nil)) (.int 0))) (.list (.cons (.str .mark) .nil)))) <|
 .cons (.assign .number (.b1 .dict (.bin .add (.comp (.tup (.cons (.var .name) (.cons (.meth .gnumber (.var .grammar) (.cons (.var .name) .nil)) .nil))) [.name] (.seq (.slTo (.var .signs) .negOne)) .tt) (.list (.cons (.tup (.cons (.str .mark) (.cons (.var .mark) .nil))) .nil))))) <|
 .cons (.for_ [.lap] (.range (.int 2)) (.cons (.assign2 .begins .begun .dict0 (.list .nil)) (.cons (.for_ [.turn] (.range (.bin .add (.int 1) (.call .law_draw (.cons (.var .pen) (.cons (.int 3) .nil))))) (.cons (.assign .rule (.call .law_draw (.cons (.var .pen) (.cons (.b1 .len (.var .pairs)) .nil)))) (.cons (.assign .dot (.call .law_draw (.cons (.var .pen) (.cons (.bin .add (.b1 .len (.sub (.sub (.var .pairs) (.var .rule)) (.int 1))) (.int 1)) .nil)))) (.cons (.assign .own (.comp (.var .sign) [.sign] (.seq (.var .signs)) (.cmp .eq (.call .law_draw (.cons (.var .pen) (.cons (.int 3) .nil))) (.int 0)))) (.cons (.setSub (.var .begins) (.meth .gitem (.var .grammar) (.cons (.var .rule) (.cons (.var .dot) .nil))) (.b1 .sum (.comp (.bin .pow (.int 2) (.sub (.var .number) (.var .sign))) [.sign] (.seq (.var .own)) .tt))) (.cons (.assign .begun (.bin .add (.comp (.var .one) [.one] (.seq (.var .begun)) (.cmp .ne (.slTo (.var .one) (.int 2)) (.tup (.cons (.var .rule) (.cons (.var .dot) .nil))))) (.comp (.tup (.cons (.var .rule) (.cons (.var .dot) (.cons (.var .sign) .nil)))) [.sign] (.seq (.bin .add (.var .own) (.list (.cons (.str .nil) .nil)))) .tt))) .nil)))))) (.cons (.assign .held .dict0) (.cons (.for_ [.rule, .dot, .sign] (.seq (.call .law_pairs_of (.cons (.var .pairs) (.cons (.var .begun) (.cons (.var .empty) .nil))))) (.cons (.assign .item (.meth .gitem (.var .grammar) (.cons (.var .rule) (.cons (.var .dot) .nil)))) (.cons (.setSub (.var .held) (.var .item) (.bin .bor (.get (.var .held) (.var .item) (.int 0)) (.ite (.cmp .ne (.var .sign) (.str .nil)) (.bin .pow (.int 2) (.sub (.var .number) (.var .sign))) (.int 0)))) .nil))) (.cons (.assign .kept (.b1 .dict (.var .begins))) (.cons (.ite (.or (.cmp .ne (.call .spread_items (.cons (.var .grammar) (.cons (.var .begins) (.cons (.call .nullable (.cons (.var .grammar) .nil)) (.cons (.call .first_masks (.cons (.var .grammar) .nil)) .nil))))) (.var .held)) (.cmp .ne (.var .begins) (.var .kept))) (.cons (.ret (.bool false)) .nil) .nil) .nil))))))) <|
 .cons (.ret (.bool true)) <|
 .nil
noncomputable def prog : Fn → Def
 | .spread => ⟨[.grammar, .known], [], body_spread⟩
 | .nullable => ⟨[.grammar], [], body_nullable⟩
 | .first_of => ⟨[.symbols, .nullables, .firsts], [], body_first_of⟩
 | .first_masks => ⟨[.grammar], [], body_first_masks⟩
 | .spread_items => ⟨[.grammar, .begins, .nullables, .firsts], [], body_spread_items⟩
 | .ruleInit => ⟨[.self, .number, .left, .right, .level_of, .action, .line, .before], [.none, .int 0, .int 0], body_ruleInit⟩
 | .grammarInit => ⟨[.self, .names, .terminal_count, .rules, .levels, .expect, .start], [], body_grammarInit⟩
 | .symbol_count => ⟨[.self], [], body_symbol_count⟩
 | .is_terminal => ⟨[.self, .symbol], [], body_is_terminal⟩
 | .gnumber => ⟨[.self, .name], [], body_gnumber⟩
 | .rules_of => ⟨[.self, .symbol], [], body_rules_of⟩
 | .gitem => ⟨[.self, .rule, .dot], [], body_gitem⟩
 | .rule_of => ⟨[.self, .item], [], body_rule_of⟩
 | .dot_of => ⟨[.self, .item], [], body_dot_of⟩
 | .after => ⟨[.self, .item], [], body_after⟩
 | .last_terminal => ⟨[.right, .terminal_count], [], body_last_terminal⟩
 | .plain_grammar => ⟨[.pairs, .start], [.none], body_plain_grammar⟩
 | .law_pen => ⟨[.script], [], body_law_pen⟩
 | .law_draw => ⟨[.pen, .many], [], body_law_draw⟩
 | .law_pick => ⟨[.pen, .some], [], body_law_pick⟩
 | .law_pairs => ⟨[.pen], [], body_law_pairs⟩
 | .law_empty => ⟨[.pairs], [], body_law_empty⟩
 | .law_ahead => ⟨[.parts, .empty], [], body_law_ahead⟩
 | .law_begins => ⟨[.pairs, .parts, .empty], [], body_law_begins⟩
 | .law_pairs_of => ⟨[.pairs, .begun, .empty], [], body_law_pairs_of⟩
end Mine
end
section
namespace Mine
open PySem PySem.W PyProof.Rows PySem.Calls
noncomputable def Nm.txt : Nm → Str
 | .S => "S" | .T => "T" | .U => "U" | .a => "a" | .b => "b" | .c => "c" | .dend => "$end" | .err => "error" | .undef => "$undefined" | .accept => "$accept" | .mark => "mark" | .nil => ""
noncomputable def Vr.txt : Vr → Str
 | .grammar => "grammar" | .known => "known" | .found => "found" | .lacking => "lacking" | .symbol => "symbol" | .users => "users" | .queue => "queue" | .rule => "rule" | .missing => "missing" | .at_ => "at" | .number => "number" | .left => "left"
 | .symbols => "symbols" | .nullables => "nullables" | .firsts => "firsts" | .mask => "mask" | .is_grown => "is_grown" | .begins => "begins" | .line => "line" | .item => "item" | .right => "right" | .is_open => "is_open" | .later => "later"
 | .self => "self" | .names => "names" | .terminal_count => "terminal_count" | .rules => "rules" | .levels => "levels" | .expect => "expect" | .start => "start" | .level_of => "level_of" | .action => "action" | .before => "before"
 | .name => "name" | .dot => "dot" | .pairs => "pairs" | .lefts => "lefts" | .parts => "parts" | .begin => "begin" | .count => "count" | .script => "script" | .cell => "cell" | .pen => "pen" | .many => "many" | .digit => "digit" | .some => "some" | .spot => "spot" | .turn => "turn"
 | .empty => "empty" | .body => "body" | .part => "part" | .one => "one" | .begun => "begun" | .sign => "sign" | .rest => "rest" | .signs => "signs" | .other => "other" | .pair => "pair" | .drawn => "drawn" | .mark => "mark" | .lap => "lap" | .own => "own" | .held => "held" | .kept => "kept"
noncomputable def Fd.txt : Fd → Str
 | .names => "names" | .terminal_count => "terminal_count" | .rules => "rules" | .levels => "levels" | .expect => "expect" | .start => "start" | .by_left => "by_left" | .offsets => "offsets" | .owners => "owners" | .item_count => "item_count"
 | .number => "number" | .left => "left" | .right => "right" | .level_of => "level_of" | .action => "action" | .line => "line" | .before => "before"
noncomputable def allNm : List Nm := [.S, .T, .U, .a, .b, .c, .dend, .err, .undef, .accept, .mark, .nil]
noncomputable def allVr : List Vr := [.grammar, .known, .found, .lacking, .symbol, .users, .queue, .rule, .missing, .at_, .number, .left,
 .symbols, .nullables, .firsts, .mask, .is_grown, .begins, .line, .item, .right, .is_open, .later,
 .self, .names, .terminal_count, .rules, .levels, .expect, .start, .level_of, .action, .before,
 .name, .dot, .pairs, .lefts, .parts, .begin, .count, .script, .cell, .pen, .many, .digit, .some, .spot, .turn,
 .empty, .body, .part, .one, .begun, .sign, .rest, .signs, .other, .pair, .drawn, .mark, .lap, .own, .held, .kept]
noncomputable def allFd : List Fd := [.names, .terminal_count, .rules, .levels, .expect, .start, .by_left, .offsets, .owners, .item_count, .number, .left, .right, .level_of, .action, .line, .before]
theorem mem_allNm (x : Nm) : x ∈ allNm := by cases x <;> decide
theorem mem_allVr (x : Vr) : x ∈ allVr := by cases x <;> decide
theorem mem_allFd (x : Fd) : x ∈ allFd := by cases x <;> decide
theorem inj_of_nodup {α : Type} {f : α → Str} {l : List α} (hn : (l.map f).Nodup) {x y : α} (hx : x ∈ l) (hy : y ∈ l) (e : f x = f y) : x = y := by
 induction l with
 | nil => exact nomatch hx
 | cons a l ih =>
  rw [List.map_cons, List.nodup_cons] at hn
  cases hx with
  | head =>
   cases hy with
   | head => rfl
   | tail _ h2 => exact absurd (e ▸ List.mem_map_of_mem h2) hn.1
  | tail _ h1 =>
   cases hy with
   | head => exact absurd (e ▸ List.mem_map_of_mem h1) hn.1
   | tail _ h2 => exact ih hn.2 h1 h2
theorem nodup_Nm : (allNm.map Nm.txt).Nodup := by decide +kernel
theorem nodup_Vr : (allVr.map Vr.txt).Nodup := by decide +kernel
theorem nodup_Fd : (allFd.map Fd.txt).Nodup := by decide +kernel
theorem Nm.inj {x y : Nm} (h : x.txt = y.txt) : x = y := inj_of_nodup nodup_Nm (mem_allNm x) (mem_allNm y) h
theorem Vr.inj {x y : Vr} (h : x.txt = y.txt) : x = y := inj_of_nodup nodup_Vr (mem_allVr x) (mem_allVr y) h
theorem Fd.inj {x y : Fd} (h : x.txt = y.txt) : x = y := inj_of_nodup nodup_Fd (mem_allFd x) (mem_allFd y) h
structure Inj where
 a : Nat → Addr
 d : Nat → Addr
noncomputable def Own (I : Inj) (n : Nat) (b : Addr) : Prop := ∃ l, l < n ∧ (b = I.a l ∨ b = I.d l)
noncomputable def WR (I : Inj) (n : Nat) : W → Value → Prop
 | .none, v => v = .none
 | .bool b, v => v = .bool b
 | .int i, v => ∃ t, v = .int i t
 | .str s, v => ∃ t, v = .str s.txt t
 | .loc l, v => l < n ∧ v = .ref (I.a l)
inductive F2 {α β : Type} (R : α → β → Prop) : List α → List β → Prop
 | nil : F2 R [] []
 | cons {x y xs ys} : R x y → F2 R xs ys → F2 R (x :: xs) (y :: ys)
namespace F2
variable {α β : Type} {R S : α → β → Prop}
theorem imp (h : ∀ x y, R x y → S x y) {xs : List α} {ys : List β} (f : F2 R xs ys) : F2 S xs ys := by
 induction f with
 | nil => exact .nil
 | cons a _ ih => exact .cons (h _ _ a) ih
theorem length {xs : List α} {ys : List β} (f : F2 R xs ys) : xs.length = ys.length := by
 induction f with
 | nil => rfl
 | cons _ _ ih => exact congrArg Nat.succ ih
theorem append {xs : List α} {ys : List β} {xs' : List α} {ys' : List β} (f : F2 R xs ys) (h : F2 R xs' ys') : F2 R (xs ++ xs') (ys ++ ys') := by
 induction f with
 | nil => exact h
 | cons a _ ih => exact .cons a ih
theorem get {xs : List α} {ys : List β} (f : F2 R xs ys) : ∀ {i : Nat} {x : α}, xs[i]? = some x → ∃ y, ys[i]? = some y ∧ R x y := by
 induction f with
 | nil => exact fun e => nomatch e
 | cons a _ ih =>
  intro i x e
  cases i with
  | zero => cases e; exact ⟨_, rfl, a⟩
  | succ i => exact ih e
theorem take {xs : List α} {ys : List β} (f : F2 R xs ys) : ∀ n, F2 R (xs.take n) (ys.take n) := by
 induction f with
 | nil => intro n; rw [List.take_nil, List.take_nil]; exact .nil
 | cons a _ ih =>
  intro n
  cases n with
  | zero => exact .nil
  | succ n => exact .cons a (ih n)
theorem drop {xs : List α} {ys : List β} (f : F2 R xs ys) : ∀ n, F2 R (xs.drop n) (ys.drop n) := by
 induction f with
 | nil => intro n; rw [List.drop_nil, List.drop_nil]; exact .nil
 | cons a b ih =>
  intro n
  cases n with
  | zero => exact .cons a b
  | succ n => exact ih n
theorem set {xs : List α} {ys : List β} (f : F2 R xs ys) : ∀ (i : Nat) {x : α} {y : β}, R x y → F2 R (xs.set i x) (ys.set i y) := by
 induction f with
 | nil => exact fun _ _ _ _ => .nil
 | cons a b ih =>
  intro i x y h
  cases i with
  | zero => exact .cons h b
  | succ i => exact .cons a (ih i h)
theorem replicate {x : α} {y : β} (h : R x y) (n : Nat) : F2 R (List.replicate n x) (List.replicate n y) := by
 induction n with
 | zero => exact .nil
 | succ n ih => exact .cons h ih
theorem map_left {γ : Type} {f : γ → α} {xs : List γ} : ∀ {ys : List β}, F2 R (xs.map f) ys → F2 (fun c y => R (f c) y) xs ys := by
 induction xs with
 | nil => intro ys h; cases h; exact .nil
 | cons c xs ih => intro ys h; cases h with | cons a b => exact .cons a (ih b)
theorem of_map_left {γ : Type} {f : γ → α} {xs : List γ} {ys : List β} (h : F2 (fun c y => R (f c) y) xs ys) : F2 R (xs.map f) ys := by
 induction h with
 | nil => exact .nil
 | cons a _ ih => exact .cons a ih
theorem mem_right {xs : List α} {ys : List β} (f : F2 R xs ys) : ∀ {y}, y ∈ ys → ∃ x, x ∈ xs ∧ R x y := by
 induction f with
 | nil => exact fun h => nomatch h
 | cons a _ ih =>
  intro y h
  cases h with
  | head => exact ⟨_, .head _, a⟩
  | tail _ h => exact (ih h).elim fun x q => ⟨x, .tail _ q.1, q.2⟩
end F2
noncomputable def VR (I : Inj) (n : Nat) (h : Heap) : V → Value → Prop
 | .w x, v => WR I n x v
 | .tup ws, v => ∃ (a : Addr) (items : List Value) (k : Nat), v = .ref a ∧ IsT h a items.toArray k ∧ F2 (WR I n) ws items
 | .old a, v => v = .ref a
section
variable (prog : Program) (w : World) (cls : Cl → Addr)
structure FieldsR (I : Inj) (n : Nat) (h : Heap) (fs : Fd → Option V) (es : List DictEntry) : Prop where
 keys : ∀ e ∈ es, ∃ (f : Fd) (t : Tok), e.key = .str f.txt t
 len : es.length ≤ (allFd.filter fun f => (fs f).isSome).length
 fld : ∀ f, match fs f with
  | some v => ∃ v', getL f.txt es = some (some v') ∧ VR I n h v v'
  | none => getL f.txt es = some none
noncomputable def ObjR (I : Inj) (n : Nat) (h : Heap) (l : Nat) : MO → Prop
 | .list vs => I.d l = I.a l ∧ ∃ (xs : List Value) (k : Nat), IsL h (I.a l) xs.toArray k ∧ F2 (VR I n h) vs xs
 | .dict es => I.d l = I.a l ∧ ∃ kvs : List (Int × Value), h.DictOf (intKind prog w) (I.a l) kvs ∧ F2 (fun (e : Int × Int) (kv : Int × Value) => e.1 = kv.1 ∧ ∃ t, kv.2 = .int e.2 t) es kvs
 | .sdict es => I.d l = I.a l ∧ ∃ kvs : List (Str × Value), h.DictOf (strKind prog w) (I.a l) kvs ∧ F2 (fun (e : Nm × Int) (kv : Str × Value) => e.1.txt = kv.1 ∧ ∃ t, kv.2 = .int e.2 t) es kvs
 | .inst c fs => I.d l ≠ I.a l ∧ h.get? (I.a l) = some (instObj (cls c) (I.d l)) ∧ ∃ es k, h.get? (I.d l) = some (dictOf es k) ∧ FieldsR I n h fs es
structure St (h₀ : Heap) (os₀ : OsState) (I : Inj) (mh : MH) (s : Shared) : Prop where
 base : ∀ b o, h₀.get? b = some o → s.heap.get? b = some o
 fresh : ∀ b, Own I mh.nxt b → h₀.objs.size ≤ b
 gens : s.gens = #[]
 os : s.os = os₀
 top : ∀ l, mh.nxt ≤ l → mh.get l = none
 obj : ∀ l, l < mh.nxt → ∃ o, mh.get l = some o ∧ ObjR prog w cls I mh.nxt s.heap l o
 inj : ∀ l k, l < mh.nxt → k < mh.nxt → l ≠ k → I.a l ≠ I.a k ∧ I.a l ≠ I.d k ∧ I.d l ≠ I.a k ∧ I.d l ≠ I.d k
 olds : ∀ a ns, mh.old a = some ns → ∃ xs : List Value, h₀.IsList a xs.toArray ∧ IntsAre xs ns
end
structure Ext (X : Addr → Prop) (I : Inj) (n : Nat) (h : Heap) (I' : Inj) (n' : Nat) (h' : Heap) : Prop where
 le : n ≤ n'
 agree : ∀ l, l < n → I'.a l = I.a l ∧ I'.d l = I.d l
 new : ∀ l, n ≤ l → l < n' → h.get? (I'.a l) = none ∧ h.get? (I'.d l) = none
 keep : ∀ b o, h.get? b = some o → ¬ Own I n b → ¬ X b → h'.get? b = some o
 live : ∀ b, h'.get? b = none → h.get? b = none
noncomputable def NoX : Addr → Prop := fun _ => False
section
variable {X : Addr → Prop} {I I' I'' : Inj} {n n' n'' : Nat} {h h' h'' : Heap}
theorem WR.mono (hn : n ≤ n') (ha : ∀ l, l < n → I'.a l = I.a l) {x : W} {v : Value} (r : WR I n x v) : WR I' n' x v := by
 cases x <;> try exact r
 obtain ⟨r1, r2⟩ := r
 exact ⟨Nat.lt_of_lt_of_le r1 hn, by rw [ha _ r1]; exact r2⟩
theorem Ext.refl : Ext X I n h I n h := ⟨Nat.le_refl _, fun _ _ => ⟨rfl, rfl⟩, fun _ h1 h2 => absurd h2 (Nat.not_lt.mpr h1), fun _ _ e _ _ => e, fun _ e => e⟩
theorem Ext.own (e : Ext X I n h I' n' h') {b : Addr} (hb : Own I' n' b) : Own I n b ∨ h.get? b = none := by
 obtain ⟨l, hl, hb⟩ := hb
 by_cases hln : l < n
 ·left
  have := e.agree l hln
  exact ⟨l, hln, by rw [this.1, this.2] at hb; exact hb⟩
 ·right
  have := e.new l (Nat.not_lt.mp hln) hl
  rcases hb with rfl | rfl
  ·exact this.1
  ·exact this.2
theorem Ext.notOwn (e : Ext X I n h I' n' h') {b : Addr} {o : Obj} (hb : ¬ Own I n b) (ho : h.get? b = some o) : ¬ Own I' n' b := fun q => by
 rcases e.own q with q | q
 ·exact hb q
 ·rw [ho] at q; cases q
theorem Ext.trans (e : Ext X I n h I' n' h') (e' : Ext X I' n' h' I'' n'' h'') : Ext X I n h I'' n'' h'' where
 le := Nat.le_trans e.le e'.le
 agree := fun l hl => by
  have a := e.agree l hl
  have b := e'.agree l (Nat.lt_of_lt_of_le hl e.le)
  exact ⟨b.1.trans a.1, b.2.trans a.2⟩
 new := fun l h1 h2 => by
  by_cases hl : l < n'
  ·have a := e.new l h1 hl
   have b := e'.agree l hl
   rw [b.1, b.2]; exact a
  ·have b := e'.new l (Nat.not_lt.mp hl) h2
   exact ⟨e.live _ b.1, e.live _ b.2⟩
 keep := fun b o ho hb hx => e'.keep b o (e.keep b o ho hb hx) (e.notOwn hb ho) hx
 live := fun b hb => e.live b (e'.live b hb)
theorem Ext.weaken {Y : Addr → Prop} (e : Ext X I n h I' n' h') (hx : ∀ b, X b → Y b) : Ext Y I n h I' n' h' :=
 { e with keep := fun b o ho hb hy => e.keep b o ho hb fun q => hy (hx b q) }
end
section
variable {prog : Program} {w : World} {cls : Cl → Addr} {h₀ : Heap} {os₀ : OsState} {I I' : Inj} {mh mh' : MH} {s s' : Shared} {X : Addr → Prop}
theorem isTup_notOwn (S : St prog w cls h₀ os₀ I mh s) {a : Addr} {o : Obj} (ho : s.heap.get? a = some o) (hc : o.cls = .type "tuple") : ¬ Own I mh.nxt a := by
 rintro ⟨l, hl, hb⟩
 obtain ⟨m, hm, r⟩ := S.obj l hl
 have key : ∀ b, (b = I.a l ∨ b = I.d l) → s.heap.get? b = some o → False := by
  intro b hb hob
  cases m with
  | list vs =>
   obtain ⟨hd, xs, k, ho', _⟩ := r
   rw [hd, or_self] at hb; subst hb; rw [ho'] at hob; cases hob
   exact absurd (show (Value.type "list") = .type "tuple" from hc) (by decide)
  | dict es =>
   obtain ⟨hd, kvs, ⟨o', es', ep, ho', hc', _⟩, _⟩ := r
   rw [hd, or_self] at hb; subst hb; rw [ho'] at hob; cases hob
   rw [hc'.1] at hc; exact absurd hc (by decide)
  | sdict es =>
   obtain ⟨hd, kvs, ⟨o', es', ep, ho', hc', _⟩, _⟩ := r
   rw [hd, or_self] at hb; subst hb; rw [ho'] at hob; cases hob
   rw [hc'.1] at hc; exact absurd hc (by decide)
  | inst c fs =>
   obtain ⟨_, h1, es, k, h2, _⟩ := r
   rcases hb with rfl | rfl
   ·rw [h1] at hob; cases hob; cases hc
   ·rw [h2] at hob; cases hob; exact absurd (show (Value.type "dict") = .type "tuple" from hc) (by decide)
 exact key a hb ho
theorem VR.ext (S : St prog w cls h₀ os₀ I mh s) (e : Ext X I mh.nxt s.heap I' mh'.nxt s'.heap) (hX : ∀ b o, X b → s.heap.get? b = some o → ∀ xs k, o.data ≠ .seq xs k) {v : V} {x : Value} (r : VR I mh.nxt s.heap v x) : VR I' mh'.nxt s'.heap v x := by
 cases v with
 | w y => exact WR.mono e.le (fun l hl => (e.agree l hl).1) r
 | tup ws =>
  obtain ⟨a, items, k, rfl, ho, hf⟩ := r
  exact ⟨a, items, k, rfl, e.keep a _ ho (isTup_notOwn S ho rfl) (fun q => hX a _ q ho _ _ rfl), hf.imp fun _ _ q => WR.mono e.le (fun l hl => (e.agree l hl).1) q⟩
 | old a => exact r
end
end Mine
end
section
namespace Mine
open PySem PySem.W PyProof.Rows PySem.Calls
noncomputable def biName (x : Str) : Bool := (["len", "list", "tuple", "int", "abs", "sum", "dict", "sorted", "set", "range", "max", "enumerate"] : List Str).contains x
noncomputable def Fn.txt : Fn → Str
 | .spread => "spread" | .nullable => "nullable" | .first_of => "first_of" | .first_masks => "first_masks" | .spread_items => "spread_items" | .ruleInit => "__init__" | .grammarInit => "__init__"
 | .symbol_count => "symbol_count" | .is_terminal => "is_terminal" | .gnumber => "number" | .rules_of => "rules_of" | .gitem => "item" | .rule_of => "rule_of" | .dot_of => "dot_of" | .after => "after"
 | .last_terminal => "last_terminal" | .plain_grammar => "plain_grammar" | .law_pen => "_law_pen" | .law_draw => "_law_draw" | .law_pick => "_law_pick" | .law_pairs => "_law_pairs" | .law_empty => "_law_empty" | .law_ahead => "_law_ahead" | .law_begins => "_law_begins" | .law_pairs_of => "_law_pairs_of"
noncomputable def Cl.txt : Cl → Str
 | .rule => "Rule" | .grammar => "Grammar"
noncomputable def Cl.init : Cl → Fn
 | .rule => .ruleInit | .grammar => .grammarInit
noncomputable def Fn.isMeth : Fn → Bool
 | .symbol_count => true | .is_terminal => true | .gnumber => true | .rules_of => true | .gitem => true | .rule_of => true | .dot_of => true | .after => true | _ => false
noncomputable def Fn.isPlain : Fn → Bool
 | .ruleInit => false | .grammarInit => false | f => !f.isMeth
set_option genInjectivity false in
structure Gd where
 prog : Program
 w : World
 h₀ : Heap
 os₀ : OsState
 K : Frag
 p : Program
 loose : List Str
 mg : Str → Option Value
 mb : Str → Option Value
 cls : Cl → Addr
 X : K.In h₀
 T : TopRead p loose mg mb h₀
 sysm : sysModules < h₀.objs.size
 noGlob : ∀ x, biName x = true → mg x = none
 fld : ∀ c f, fieldOf c f = true → findIn K (.ref (cls c)) f.txt = some none
 clsGet : ∀ c x, plainGet K (cls c) x = true
 clsDict : ∀ c, hasDictIn K (cls c) = true
 clsOver : ∀ c, plainOver K (cls c) = true
 fa : Fn → Addr
 fnGlob : ∀ f, f.isPlain = true → mg f.txt = some (.ref (fa f))
 fnMeth : ∀ f, f.isMeth = true → findIn K (.ref (cls .grammar)) f.txt = some (some (.ref (fa f)))
 fnIs : ∀ f, isFn K (.ref (fa f)) = true
 fnKeep : ∀ f, keepIn K (.ref (fa f)) = true
 gEnd : ∃ t, mg "END" = some (.int 0 t)
 gOwn : ∃ (a : Addr) (xs : List Value) (k : Nat), mg "OWN_TERMINALS" = some (.ref a) ∧ IsT h₀ a xs.toArray k ∧ F2 (fun (x : Nm) (v : Value) => ∃ t, v = .str x.txt t) [.dend, .err, .undef] xs
 clsGlob : ∀ c, mg c.txt = some (.ref (cls c))
 clsKeep : ∀ c, keepIn K (.ref (cls c)) = true
 clsMakes : ∀ c, makesIn K (cls c) = true
 clsInit : ∀ c : Cl, findIn K (.ref (cls c)) "__init__" = some (some (.ref (fa c.init)))
 clsSet : ∀ c, findIn K (.ref (cls c)) "__setattr__" = some (some (.builtin "object.__setattr__"))
variable {G : Gd}
abbrev Gd.St (G : Gd) (I : Inj) (mh : MH) (s : Shared) : Prop := Mine.St G.prog G.w G.cls G.h₀ G.os₀ I mh s
abbrev Gd.M (G : Gd) : Model := model G.prog G.w
noncomputable def AOk (n : Nat) (A : Around) : Prop := A.handled = none ∧ A.depth + 10 * n + 20 ≤ recursionLimit ∧ A.units + 50 * n + 100 ≤ cLine
inductive CelR (G : Gd) (env : PySem.Env) (me : Env) (I : Inj) (n : Nat) (h : Heap) (x : Vr) : Prop
 | mk (c : Addr) (o : Option Value) (h1 : env.cells.lookup x.txt = some c) (h2 : h.IsCell c o) (h3 : ¬ Own I n c) (h4 : G.h₀.get? c = none) (h5 : ∀ v, me x = some v → ∃ v', o = some v' ∧ VR I n h v v')
structure EnvR (G : Gd) (env : PySem.Env) (me : Env) (I : Inj) (n : Nat) (h : Heap) : Prop where
 kind : env.scope.kind = .function
 glob : env.globals = mainGlobals
 blt : env.builtins = builtinsNs
 fr : ∃ m, Fr G.h₀ env.locals h m ∧ ∀ x v, me x = some v → env.kindOf x.txt = some .local → ∃ v', m x.txt = some v' ∧ VR I n h v v'
 nL : ¬ Own I n env.locals
 cel : ∀ x, env.kindOf x.txt = some .cell ∨ env.kindOf x.txt = some .free → CelR G env me I n h x
 apart : ∀ (x y : Vr) c, env.cells.lookup x.txt = some c → env.cells.lookup y.txt = some c → x = y
noncomputable def FX (env : PySem.Env) (b : Addr) : Prop := b = env.locals ∨ ∃ x : Vr, env.kindOf x.txt = some .cell ∧ env.cells.lookup x.txt = some b
section
variable {env : PySem.Env} {me : Env} {I I' : Inj} {mh mh' : MH} {s s' : Shared} {X : Addr → Prop}
theorem NoX.seq {h : Heap} : ∀ b o, NoX b → h.get? b = some o → ∀ xs k, o.data ≠ .seq xs k := fun _ _ h => h.elim
theorem VR.next (S : G.St I mh s) (e : Ext NoX I mh.nxt s.heap I' mh'.nxt s'.heap) {v : V} {x : Value} (r : VR I mh.nxt s.heap v x) : VR I' mh'.nxt s'.heap v x := VR.ext S e NoX.seq r
theorem EnvR.next (S : G.St I mh s) (R : EnvR G env me I mh.nxt s.heap) (e : Ext NoX I mh.nxt s.heap I' mh'.nxt s'.heap) (S' : G.St I' mh' s') : EnvR G env me I' mh'.nxt s'.heap := by
 obtain ⟨hk, hg, hb, ⟨m, F, hm⟩, hnL, hc, ha⟩ := R
 obtain ⟨oL, es, ep, hL, hr⟩ := F.ns
 refine ⟨hk, hg, hb, ⟨m, ⟨⟨oL, es, ep, e.keep _ _ hL hnL (fun q => q), hr⟩, S'.base, F.above⟩, fun x v h1 h2 => ?_⟩, e.notOwn hnL hL, fun x hx => ?_, ha⟩
 ·obtain ⟨v', a, b⟩ := hm x v h1 h2
  exact ⟨v', a, b.next S e⟩
 ·obtain ⟨c, o, h1, ⟨oc, h2, h3⟩, h4, h5, h6⟩ := hc x hx
  refine ⟨c, o, h1, ⟨oc, e.keep _ _ h2 h4 (fun q => q), h3⟩, e.notOwn h4 h2, h5, fun v hv => ?_⟩
  obtain ⟨v', a, b⟩ := h6 v hv
  exact ⟨v', a, b.next S e⟩
theorem EnvR.F (R : EnvR G env me I mh.nxt s.heap) : ∃ m, Fr G.h₀ env.locals s.heap m := let ⟨m, F, _⟩ := R.fr; ⟨m, F⟩
end
noncomputable def SndE (G : Gd) (C : CS) (n : Nat) (sc : Scope) (e : E) (ex : Expr) : Prop :=
 ∀ (A : Around) (env : PySem.Env) (me : Env) (I : Inj) (mh : MH) (s : Shared) (Qm : V → MH → Prop) (Q : Value → Shared → Prop) (Er : Value → Shared → Prop),
  AOk n A → env.scope = sc → G.St I mh s → EnvR G env me I mh.nxt s.heap → wE C e me mh Qm →
  (∀ v mh' v' I' s', Qm v mh' → Ext NoX I mh.nxt s.heap I' mh'.nxt s'.heap → G.St I' mh' s' → VR I' mh'.nxt s'.heap v v' → Q v' s') →
  wpAny G.M A (eval ex env) Q Er s
noncomputable def SndT (G : Gd) (C : CS) (n : Nat) (sc : Scope) (t : T) (ex : Expr) : Prop :=
 ∀ (A : Around) (env : PySem.Env) (me : Env) (I : Inj) (mh : MH) (s : Shared) (Qm : Bool → MH → Prop) (Q : Bool → Shared → Prop) (Er : Value → Shared → Prop),
  AOk n A → env.scope = sc → G.St I mh s → EnvR G env me I mh.nxt s.heap → wT C t me mh Qm →
  (∀ b mh' I' s', Qm b mh' → Ext NoX I mh.nxt s.heap I' mh'.nxt s'.heap → G.St I' mh' s' → Q b s') →
  wpAny G.M A (isTrue ex env (eval ex env)) Q Er s
noncomputable def VRs (I : Inj) (n : Nat) (h : Heap) (vs : List V) (xs : List Value) : Prop := F2 (VR I n h) vs xs
noncomputable def SndEs (G : Gd) (C : CS) (n : Nat) (sc : Scope) (es : Es) (exs : List Expr) : Prop :=
 ∀ (pos : Pos) (A : Around) (env : PySem.Env) (me : Env) (I : Inj) (mh : MH) (s : Shared) (Qm : List V → MH → Prop) (Q : List Value → Shared → Prop) (Er : Value → Shared → Prop),
  AOk n A → env.scope = sc → G.St I mh s → EnvR G env me I mh.nxt s.heap → wEs C es me mh Qm →
  (∀ vs mh' xs I' s', Qm vs mh' → Ext NoX I mh.nxt s.heap I' mh'.nxt s'.heap → G.St I' mh' s' → VRs I' mh'.nxt s'.heap vs xs → Q xs s') →
  wpAny G.M A (spliced (backTo pos (starEach exs env))) Q Er s
section
variable {C : CS} {n : Nat} {sc : Scope}
theorem St.toks {I : Inj} {mh : MH} {s : Shared} (S : G.St I mh s) (t : Tok) : G.St I mh { s with toks := t } := ⟨S.base, S.fresh, S.gens, S.os, S.top, S.obj, S.inj, S.olds⟩
theorem snd_none {k : Nat} {pos : Pos} : SndE G C n sc .none (.Constant .none k pos) := fun A env me I mh s Qm Q Er hA hs S R hw hQ =>
 wpAny_pure (hQ _ _ _ _ _ hw .refl S rfl)
theorem snd_bool {b : Bool} {k : Nat} {pos : Pos} : SndE G C n sc (.bool b) (.Constant (.bool b) k pos) := fun A env me I mh s Qm Q Er hA hs S R hw hQ =>
 wpAny_pure (hQ _ _ _ _ _ hw .refl S rfl)
theorem snd_int {i : Int} {k : Nat} {pos : Pos} : SndE G C n sc (.int i) (.Constant (.int i) k pos) := fun A env me I mh s Qm Q Er hA hs S R hw hQ =>
 wpAny_Constant_int (hQ _ _ _ _ _ hw .refl (S.toks _) ⟨_, rfl⟩)
theorem snd_str {x : Nm} {y : Str} {k : Nat} {pos : Pos} (hy : y = x.txt := by rfl) : SndE G C n sc (.str x) (.Constant (.str y) k pos) := fun A env me I mh s Qm Q Er hA hs S R hw hQ => by
 subst hy
 exact Constant_str (hQ _ _ _ _ _ hw .refl (S.toks _) ⟨_, rfl⟩)
noncomputable def isVar (sc : Scope) (x : Str) : Bool := sc.names.lookup x == some .local || sc.names.lookup x == some .cell || sc.names.lookup x == some .free
theorem snd_var {x : Vr} {y : Str} {pos : Pos} (hy : y = x.txt := by rfl) (hv : isVar sc y = true := by rfl) (hd : (y == ("__debug__" : Str)) = false := by decide +kernel)
  (hn : (y == ("__classdict__" : Str)) = false := by decide +kernel) : SndE G C n sc (.var x) (.Name y pos) := fun A env me I mh s Qm Q Er hA hs S R hw hQ => by
 subst hy
 subst hs
 obtain ⟨v, hv', hq⟩ := hw
 refine wpAny_Name ?_ hd
 simp only [isVar, Bool.or_eq_true, beq_iff_eq] at hv
 have hQ' : ∀ v', VR I mh.nxt s.heap v v' → Q v' s := fun v' r => hQ _ _ _ _ _ hq .refl S r
 rcases hv with (hv | hv) | hv
 ·obtain ⟨m, F, hm⟩ := R.fr
  obtain ⟨v', h1, h2⟩ := hm x v hv' hv
  exact wpAny_loadName_local R.kind hv F.ns h1 (hQ' _ h2)
 ·obtain ⟨c, o, h1, h2, _, _, h3⟩ := R.cel x (.inl hv)
  obtain ⟨v', rfl, h4⟩ := h3 v hv'
  exact wpAny_loadName_cell R.kind hv h1 h2 (hQ' _ h4)
 ·obtain ⟨c, o, h1, h2, _, _, h3⟩ := R.cel x (.inr hv)
  obtain ⟨v', rfl, h4⟩ := h3 v hv'
  exact wpAny_loadName_free R.kind hv h1 h2 (hQ' _ h4) hn
theorem snd_two {a b : E} {ea eb : Expr} (Ha : SndE G C n sc a ea) (Hb : SndE G C n sc b eb)
  {A : Around} {env : PySem.Env} {me : Env} {I : Inj} {mh : MH} {s : Shared} {Qm : V → V → MH → Prop} {Q : Value → Value → Shared → Prop} {Er : Value → Shared → Prop}
  (hA : AOk n A) (hs : env.scope = sc) (S : G.St I mh s) (R : EnvR G env me I mh.nxt s.heap) (hw : wE C a me mh fun va h1 => wE C b me h1 fun vb h2 => Qm va vb h2)
  (hQ : ∀ va vb mh' xa xb I' s', Qm va vb mh' → Ext NoX I mh.nxt s.heap I' mh'.nxt s'.heap → G.St I' mh' s' → EnvR G env me I' mh'.nxt s'.heap → VR I' mh'.nxt s'.heap va xa → VR I' mh'.nxt s'.heap vb xb → Q xa xb s') :
  wpAny G.M A (eval ea env) (fun xa s1 => wpAny G.M A (eval eb env) (fun xb s2 => Q xa xb s2) Er s1) Er s :=
 Ha A env me I mh s _ _ _ hA hs S R hw fun va h1 xa I1 s1 hw1 e1 S1 r1 =>
  Hb A env me I1 h1 s1 _ _ _ hA hs S1 (R.next S e1 S1) hw1 fun vb h2 xb I2 s2 hw2 e2 S2 r2 =>
   hQ va vb h2 xa xb I2 s2 hw2 (e1.trans e2) S2 ((R.next S e1 S1).next S1 e2 S2) (r1.next S1 e2) r2
theorem snd_nil : SndEs G C n sc .nil [] := fun pos A env me I mh s Qm Q Er hA hs S R hw hQ =>
 wpAny_pure (hQ _ _ _ _ _ hw .refl S .nil)
theorem snd_cons {e : E} {es : Es} {ex : Expr} {exs : List Expr} (H : SndE G C n sc e ex) (Hs : SndEs G C n sc es exs)
  (hst : ∀ env, starEach (ex :: exs) env = (false, eval ex env) :: starEach exs env := by intro _; rfl) : SndEs G C n sc (.cons e es) (ex :: exs) := fun pos A env me I mh s Qm Q Er hA hs S R hw hQ => by
 rw [hst]
 show wpAny _ _ (spliced ((false, eval ex env) :: backTo pos (starEach exs env))) _ _ _
 unfold spliced
 refine wpAny_bind (H A env me I mh s _ _ _ hA hs S R hw fun v h1 x I1 s1 hw1 e1 S1 r1 => ?_)
 refine wpAny_bind (wpAny_pure (wpAny_bind (wpAny_holding ?_)))
 exact Hs pos A env me I1 h1 s1 _ _ _ hA hs S1 (R.next S e1 S1) hw1 fun vs h2 xs I2 s2 hw2 e2 S2 r2 =>
  wpAny_pure (hQ _ _ _ _ _ hw2 (e1.trans e2) S2 (.cons (r1.next S1 e2) r2))
end
end Mine
end
section
namespace Mine
open PySem PySem.W PyProof.Rows PySem.Calls
variable {G : Gd}
noncomputable def Inj.put (I : Inj) (n : Nat) (a d : Addr) : Inj := ⟨fun l => if l = n then a else I.a l, fun l => if l = n then d else I.d l⟩
section
variable {I I' : Inj} {mh mh' : MH} {s s' : Shared} {n n' : Nat} {h h' : Heap}
theorem VR.stay (hn : n ≤ n') (ha : ∀ l, l < n → I'.a l = I.a l) (hk : ∀ b o xs k, h.get? b = some o → o.cls = .type "tuple" → o.data = .seq xs k → h'.get? b = some o) {v : V} {x : Value} (r : VR I n h v x) : VR I' n' h' v x := by
 cases v with
 | w y => exact WR.mono hn ha r
 | tup ws =>
  obtain ⟨a, items, k, rfl, ho, hf⟩ := r
  exact ⟨a, items, k, rfl, hk a _ _ _ ho rfl rfl, hf.imp fun _ _ q => WR.mono hn ha q⟩
 | old a => exact r
theorem FieldsR.stay (hn : n ≤ n') (ha : ∀ l, l < n → I'.a l = I.a l) (hk : ∀ b o xs k, h.get? b = some o → o.cls = .type "tuple" → o.data = .seq xs k → h'.get? b = some o) {fs : Fd → Option V} {es : List DictEntry}
  (r : FieldsR I n h fs es) : FieldsR I' n' h' fs es := by
 refine ⟨r.keys, r.len, fun f => ?_⟩
 have q := r.fld f
 split at q
 ·rename_i v e
  obtain ⟨v', h1, h2⟩ := q
  exact ⟨v', h1, h2.stay hn ha hk⟩
 ·exact q
theorem ObjR.stay (hn : n ≤ n') (ha : ∀ l, l < n → I'.a l = I.a l) (hk : ∀ b o xs k, h.get? b = some o → o.cls = .type "tuple" → o.data = .seq xs k → h'.get? b = some o) {l : Nat} {o : MO}
  (e1 : I'.a l = I.a l) (e2 : I'.d l = I.d l) (k1 : ∀ o, h.get? (I.a l) = some o → h'.get? (I.a l) = some o) (k2 : ∀ o, h.get? (I.d l) = some o → h'.get? (I.d l) = some o)
  (r : ObjR G.prog G.w G.cls I n h l o) : ObjR G.prog G.w G.cls I' n' h' l o := by
 cases o with
 | list vs =>
  obtain ⟨q, xs, k, q1, q3⟩ := r
  exact ⟨by rw [e1, e2, q], xs, k, by rw [e1]; exact k1 _ q1, q3.imp fun _ _ z => z.stay hn ha hk⟩
 | dict es =>
  obtain ⟨q, kvs, ⟨ob, es', ep, q1, q2⟩, q3⟩ := r
  exact ⟨by rw [e1, e2, q], kvs, by rw [e1]; exact ⟨ob, es', ep, k1 _ q1, q2⟩, q3⟩
 | sdict es =>
  obtain ⟨q, kvs, ⟨ob, es', ep, q1, q2⟩, q3⟩ := r
  exact ⟨by rw [e1, e2, q], kvs, by rw [e1]; exact ⟨ob, es', ep, k1 _ q1, q2⟩, q3⟩
 | inst c fs =>
  obtain ⟨q, q1, es, k, q2, q3⟩ := r
  exact ⟨by rw [e1, e2]; exact q, by rw [e1, e2]; exact k1 _ q1, es, k, by rw [e2]; exact k2 _ q2, q3.stay hn ha hk⟩
theorem ObjR.live {l : Nat} {o : MO} (r : ObjR G.prog G.w G.cls I n h l o) : h.get? (I.a l) ≠ none ∧ h.get? (I.d l) ≠ none := by
 cases o with
 | list vs => obtain ⟨q, xs, k, q1, q3⟩ := r; rw [q, show h.get? (I.a l) = _ from q1]; exact ⟨nofun, nofun⟩
 | dict es => obtain ⟨q, kvs, ⟨ob, es', ep, q1, q2⟩, q3⟩ := r; rw [q, q1]; exact ⟨nofun, nofun⟩
 | sdict es => obtain ⟨q, kvs, ⟨ob, es', ep, q1, q2⟩, q3⟩ := r; rw [q, q1]; exact ⟨nofun, nofun⟩
 | inst c fs => obtain ⟨q, q1, es, k, q2, q3⟩ := r; rw [q1, q2]; exact ⟨nofun, nofun⟩
theorem St.ownLive (S : G.St I mh s) {b : Addr} (hb : Own I mh.nxt b) : s.heap.get? b ≠ none := by
 obtain ⟨l, hl, hb⟩ := hb
 obtain ⟨o, _, r⟩ := S.obj l hl
 rcases hb with rfl | rfl
 ·exact r.live.1
 ·exact r.live.2
theorem St.keep (S : G.St I mh s) (k : ∀ b o, s.heap.get? b = some o → s'.heap.get? b = some o) (hg : s'.gens = s.gens) (ho : s'.os = s.os) : G.St I mh s' where
 base := fun b o e => k _ _ (S.base b o e)
 fresh := S.fresh
 gens := hg.trans S.gens
 os := ho.trans S.os
 top := S.top
 obj := fun l hl => let ⟨o, h1, h2⟩ := S.obj l hl; ⟨o, h1, h2.stay (Nat.le_refl _) (fun _ _ => rfl) (fun b o _ _ e _ _ => k b o e) rfl rfl (fun o e => k _ o e) (fun o e => k _ o e)⟩
 inj := S.inj
 olds := S.olds
theorem Ext.ofKeep {X : Addr → Prop} (k : ∀ b o, h.get? b = some o → h'.get? b = some o) : Ext X I n h I n h' where
 le := Nat.le_refl _
 agree := fun _ _ => ⟨rfl, rfl⟩
 new := fun _ h1 h2 => absurd h2 (Nat.not_lt.mpr h1)
 keep := fun b o e _ _ => k b o e
 live := fun b e => by
  cases q : h.get? b with
  | none => rfl
  | some o => rw [k b o q] at e; cases e
theorem put_lt {I : Inj} {n : Nat} {a d : Addr} {l : Nat} (h : l < n) : (I.put n a d).a l = I.a l ∧ (I.put n a d).d l = I.d l := by
 have : l ≠ n := Nat.ne_of_lt h
 simp [Inj.put, this]
theorem put_at {I : Inj} {n : Nat} {a d : Addr} : (I.put n a d).a n = a ∧ (I.put n a d).d n = d := by simp [Inj.put]
theorem St.alloc (S : G.St I mh s) {o : MO} {a d : Addr} (k : ∀ b ob, s.heap.get? b = some ob → s'.heap.get? b = some ob) (ha : s.heap.get? a = none) (hd : s.heap.get? d = none)
  (za : G.h₀.objs.size ≤ a) (zd : G.h₀.objs.size ≤ d)
  (hg : s'.gens = s.gens) (hos : s'.os = s.os) (r : ObjR G.prog G.w G.cls (I.put mh.nxt a d) (mh.nxt + 1) s'.heap mh.nxt o) :
  G.St (I.put mh.nxt a d) (mh.new o) s' ∧ Ext NoX I mh.nxt s.heap (I.put mh.nxt a d) (mh.new o).nxt s'.heap := by
 refine ⟨⟨fun b ob e => k _ _ (S.base b ob e), fun b hb => ?_, hg.trans S.gens, hos.trans S.os, fun l hl => ?_, fun l hl => ?_, fun l j hl hj hne => ?_, S.olds⟩, ⟨Nat.le_succ _, fun l hl => put_lt hl, fun l h1 h2 => ?_, fun b ob e _ _ => k b ob e, (Ext.ofKeep (X := NoX) (I := I) (n := 0) k).live⟩⟩
 ·obtain ⟨l, hl, hb⟩ := hb
  by_cases hln : l < mh.nxt
  ·rw [(put_lt hln).1, (put_lt hln).2] at hb; exact S.fresh b ⟨l, hln, hb⟩
  ·have : l = mh.nxt := by have : l < mh.nxt + 1 := hl; lia
   subst this
   rw [put_at.1, put_at.2] at hb
   rcases hb with rfl | rfl
   ·exact za
   ·exact zd
 ·have h1 : mh.nxt + 1 ≤ l := hl
  show (if l = mh.nxt then _ else _) = _
  rw [if_neg (by lia)]; exact S.top l (by lia)
 ·have h1 : l < mh.nxt + 1 := hl
  by_cases hln : l < mh.nxt
  ·obtain ⟨o', h2, h3⟩ := S.obj l hln
   refine ⟨o', ?_, h3.stay (Nat.le_succ _) (fun j hj => (put_lt hj).1) (fun b ob _ _ e _ _ => k b ob e) (put_lt hln).1 (put_lt hln).2 (fun ob e => k _ ob e) (fun ob e => k _ ob e)⟩
   show (if l = mh.nxt then _ else _) = _
   rw [if_neg (Nat.ne_of_lt hln)]; exact h2
  ·have : l = mh.nxt := by lia
   subst this
   refine ⟨o, ?_, r⟩
   show (if mh.nxt = mh.nxt then _ else _) = _
   rw [if_pos rfl]
 ·have h1 : l < mh.nxt + 1 := hl
  have h2 : j < mh.nxt + 1 := hj
  have nw : ∀ {m : Nat}, m < mh.nxt → I.a m ≠ a ∧ I.a m ≠ d ∧ I.d m ≠ a ∧ I.d m ≠ d := fun {m} hm => by
   obtain ⟨o', _, q⟩ := S.obj m hm
   exact ⟨fun e => q.live.1 (e ▸ ha), fun e => q.live.1 (e ▸ hd), fun e => q.live.2 (e ▸ ha), fun e => q.live.2 (e ▸ hd)⟩
  by_cases hln : l < mh.nxt <;> by_cases hjn : j < mh.nxt
  ·rw [(put_lt hln).1, (put_lt hln).2, (put_lt hjn).1, (put_lt hjn).2]; exact S.inj l j hln hjn hne
  ·have : j = mh.nxt := by lia
   subst this
   rw [(put_lt hln).1, (put_lt hln).2, put_at.1, put_at.2]
   have := nw hln
   exact ⟨this.1, this.2.1, this.2.2.1, this.2.2.2⟩
  ·have : l = mh.nxt := by lia
   subst this
   rw [(put_lt hjn).1, (put_lt hjn).2, put_at.1, put_at.2]
   have := nw hjn
   exact ⟨Ne.symm this.1, Ne.symm this.2.2.1, Ne.symm this.2.1, Ne.symm this.2.2.2⟩
  ·lia
 ·have : l = mh.nxt := by have : l < mh.nxt + 1 := h2; lia
  subst this
  rw [put_at.1, put_at.2]; exact ⟨ha, hd⟩
theorem St.turn (S : G.St I mh s) {l : Nat} {o : MO} (hl : l < mh.nxt) (k : ∀ b, b ≠ I.a l → b ≠ I.d l → s'.heap.get? b = s.heap.get? b) (hg : s'.gens = s.gens) (hos : s'.os = s.os)
  (r : (∀ b o xs k, s.heap.get? b = some o → o.cls = .type "tuple" → o.data = .seq xs k → s'.heap.get? b = some o) → ObjR G.prog G.w G.cls I mh.nxt s'.heap l o) : G.St I (mh.set l o) s' ∧ Ext NoX I mh.nxt s.heap I (mh.set l o).nxt s'.heap := by
 have kt : ∀ b ob xs j, s.heap.get? b = some ob → ob.cls = .type "tuple" → ob.data = .seq xs j → s'.heap.get? b = some ob := fun b ob xs j e hc _ => by
  have q := isTup_notOwn S e hc
  rw [k b (fun z => q ⟨l, hl, .inl z⟩) (fun z => q ⟨l, hl, .inr z⟩)]; exact e
 have r := r kt
 refine ⟨⟨fun b ob e => ?_, S.fresh, hg.trans S.gens, hos.trans S.os, fun j hj => ?_, fun j hj => ?_, S.inj, S.olds⟩, ⟨Nat.le_refl _, fun _ _ => ⟨rfl, rfl⟩, fun _ h1 h2 => absurd h2 (Nat.not_lt.mpr h1), fun b ob e hb _ => ?_, fun b e => ?_⟩⟩
 ·have hb : ¬ Own I mh.nxt b := fun q => absurd (Heap.lt_size e) (Nat.not_lt.mpr (S.fresh b q))
  rw [k b (fun z => hb ⟨l, hl, .inl z⟩) (fun z => hb ⟨l, hl, .inr z⟩)]; exact S.base b ob e
 ·have h1 : mh.nxt ≤ j := hj
  show (if j = l then _ else _) = _
  rw [if_neg (by lia)]; exact S.top j h1
 ·by_cases hjl : j = l
  ·subst hjl
   refine ⟨o, ?_, r⟩
   show (if j = j then _ else _) = _
   rw [if_pos rfl]
  ·obtain ⟨o', h2, h3⟩ := S.obj j hj
   have hi := S.inj j l hj hl hjl
   refine ⟨o', ?_, h3.stay (Nat.le_refl _) (fun _ _ => rfl) kt rfl rfl (fun ob e => ?_) (fun ob e => ?_)⟩
   ·show (if j = l then _ else _) = _
    rw [if_neg hjl]; exact h2
   ·rw [k _ hi.1 hi.2.1]; exact e
   ·rw [k _ hi.2.2.1 hi.2.2.2]; exact e
 ·rw [k b (fun z => hb ⟨l, hl, .inl z⟩) (fun z => hb ⟨l, hl, .inr z⟩)]; exact e
 ·by_cases h1 : b = I.a l
  ·exact absurd e (h1 ▸ r.live.1)
  ·by_cases h2 : b = I.d l
   ·exact absurd e (h2 ▸ r.live.2)
   ·rw [← k b h1 h2]; exact e
end
theorem get_size (h : Heap) (j : Nat) (hj : h.objs.size ≤ j) : h.get? j = none := by
 cases q : h.get? j with
 | none => rfl
 | some o => exact absurd (Heap.lt_size q) (Nat.not_lt.mpr hj)
end Mine
end
section
namespace Mine
open PySem PySem.W PyProof.Rows PySem.Calls
variable {G : Gd} {C : CS} {n : Nat} {sc : Scope}
theorem EnvR.size {env : PySem.Env} {me : Env} {I : Inj} {k : Nat} {h : Heap} (R : EnvR G env me I k h) : G.h₀.objs.size ≤ h.objs.size := by
 obtain ⟨m, F, _⟩ := R.fr
 exact Nat.le_trans F.above (Nat.le_of_lt F.ns.lt)
theorem txt_eq (x y : Nm) : (x.txt == y.txt) = decide (x = y) := by
 by_cases h : x = y
 ·subst h; simp
 ·have : ¬ x.txt = y.txt := fun e => h (Nm.inj e)
  simp [h, this]
theorem dtxt_eq (x y : Nm) : decide (x.txt = y.txt) = decide (x = y) := by
 by_cases h : x = y
 ·subst h; simp
 ·have : ¬ x.txt = y.txt := fun e => h (Nm.inj e)
  simp [h, this]
section
variable {I : Inj} {k : Nat} {s : Shared} {A : Around}
theorem eqAt_w {x y : W} {b : Bool} {xa ya : Value} (e : weq x y = some b) (hx : WR I k x xa) (hy : WR I k y ya) : SeqAt.EqAt A s xa ya b := by
 rcases weq_in e with ⟨i, j, rfl, rfl, rfl⟩ | ⟨i, j, rfl, rfl, rfl⟩
 ·obtain ⟨t, rfl⟩ := hx; obtain ⟨u, rfl⟩ := hy
  exact fun prog w E Q hq => wpAny_eqBool_int hq
 ·obtain ⟨t, rfl⟩ := hx; obtain ⟨u, rfl⟩ := hy
  exact fun prog w E Q hq => wpAny_eqBool_str (by rw [dtxt_eq]; exact hq)
theorem weqs_at {xs ys : List W} {b : Bool} {xas yas : List Value} (h : weqs xs ys = some b) (h1 : F2 (WR I k) xs xas) (h2 : F2 (WR I k) ys yas) :
  xas.length = yas.length ∧ ∃ e : Nat → Bool, (∀ j x y, xas[j]? = some x → yas[j]? = some y → SeqAt.EqAt A s x y (e j)) ∧ (List.range xas.length).all e = b := by
 induction h1 generalizing ys b yas with
 | nil =>
  cases h2 with
  | nil => cases h; exact ⟨rfl, fun _ => true, (by intro j x y h; simp at h), rfl⟩
  | cons _ _ => exact none_ne h
 | cons a1 h1 ih =>
  cases h2 with
  | nil => exact none_ne h
  | cons a2 h2 =>
   obtain ⟨b1, b2, e1, e2, rfl⟩ := weqs_in h
   obtain ⟨hl, e, he, ha⟩ := ih e2 h2
   refine ⟨congrArg Nat.succ hl, fun j => if j = 0 then b1 else e (j - 1), fun j u v hu hv => ?_, ?_⟩
   ·cases j with
    | zero => cases hu; cases hv; exact eqAt_w e1 a1 a2
    | succ j => exact he j u v hu hv
   ·rw [List.length_cons, List.range_succ_eq_map, List.all_cons, List.all_map]
    exact congrArg (b1 && ·) ha
theorem weq_same {x y : W} {b : Bool} {v : Value} (e : weq x y = some b) (hx : WR I k x v) (hy : WR I k y v) : b = true := by
 rcases weq_in e with ⟨i, j, rfl, rfl, rfl⟩ | ⟨i, j, rfl, rfl, rfl⟩
 ·obtain ⟨t, rfl⟩ := hx; obtain ⟨u, q⟩ := hy; cases q; exact decide_eq_true rfl
 ·obtain ⟨t, rfl⟩ := hx; obtain ⟨u, q⟩ := hy
  exact decide_eq_true (Nm.inj (Value.str.inj q).1)
theorem weqs_same {xs ys : List W} {b : Bool} {vs : List Value} (h : weqs xs ys = some b) (h1 : F2 (WR I k) xs vs) (h2 : F2 (WR I k) ys vs) : b = true := by
 induction h1 generalizing ys b with
 | nil => cases h2; cases h; rfl
 | cons a1 _ ih =>
  cases h2 with
  | cons a2 h2 =>
   obtain ⟨b1, b2, e1, e2, rfl⟩ := weqs_in h
   rw [weq_same e1 a1 a2, ih e2 h2]; rfl
theorem isTuple_of {h : Heap} {t : Addr} {items : Array Value} {n : Nat} (x : IsT h t items n) : h.IsTuple t items := ⟨_, x, rfl, n, rfl⟩
theorem isT_same {h : Heap} {a : Addr} {xs ys : List Value} {n m : Nat} (h1 : IsT h a xs.toArray n) (h2 : IsT h a ys.toArray m) : xs = ys := by
 have q := Option.some.inj ((show h.get? a = _ from h1).symm.trans h2)
 exact congrArg Array.toList (Data.seq.inj (congrArg Obj.data q)).1
theorem eqAt_v {x y : V} {b : Bool} {xa ya : Value} (hu : A.units < cLine) (e : veq x y = some b) (hx : VR I k s.heap x xa) (hy : VR I k s.heap y ya) : SeqAt.EqAt A s xa ya b := by
 rcases veq_in e with ⟨x, y, rfl, rfl, e0⟩ | ⟨xs, ys, rfl, rfl, e0⟩
 ·exact eqAt_w e0 hx hy
 ·obtain ⟨a, items, k1, rfl, h1, f1⟩ := hx
  obtain ⟨c, items2, k2, rfl, h2, f2⟩ := hy
  by_cases hac : a = c
  ·subst hac
   cases isT_same h1 h2
   cases weqs_same e0 f1 f2
   exact SeqAt.EqAt.same _
  ·obtain ⟨hl, e', he, ha⟩ := weqs_at (A := A.in1) (s := s) e0 f1 f2
   refine SeqAt.EqAt.of_refs hac ?_
   have q := SeqAt.RcAt.tuples (e := e') (isTuple_of h1) (isTuple_of h2) hu fun j z1 z2 => he j _ _ (by simp at z1 ⊢) (by simp at z2 ⊢)
   simpa [hl, ← ha] using q
end
end Mine
end
section
namespace Mine
open PySem PySem.W PyProof.Rows PySem.Calls
variable {G : Gd} {C : CS} {n : Nat} {sc : Scope}
section
variable {I : Inj} {k : Nat} {s : Shared} {A : Around}
theorem weq_fun {x x' y : W} {b b' : Bool} {v : Value} (e : weq x y = some b) (e' : weq x' y = some b') (hx : WR I k x v) (hx' : WR I k x' v) : b = b' := by
 rcases weq_in e with ⟨i, j, rfl, rfl, rfl⟩ | ⟨i, j, rfl, rfl, rfl⟩
 ·rcases weq_in e' with ⟨i', j', rfl, q, rfl⟩ | ⟨_, _, _, q, _⟩
  ·cases q
   obtain ⟨t, rfl⟩ := hx; obtain ⟨u, q⟩ := hx'; cases q; rfl
  ·cases q
 ·rcases weq_in e' with ⟨_, _, _, q, _⟩ | ⟨i', j', rfl, q, rfl⟩
  ·cases q
  ·cases q
   obtain ⟨t, rfl⟩ := hx; obtain ⟨u, q⟩ := hx'
   rw [Nm.inj (Value.str.inj q).1]
theorem weqs_fun {xs xs' ys : List W} {b b' : Bool} {vs : List Value} (h : weqs xs ys = some b) (h' : weqs xs' ys = some b') (h1 : F2 (WR I k) xs vs) (h2 : F2 (WR I k) xs' vs) : b = b' := by
 induction h1 generalizing xs' ys b b' with
 | nil => cases h2; exact Option.some.inj (h.symm.trans h')
 | cons a1 _ ih =>
  cases h2 with
  | cons a2 h2 =>
   cases ys with
   | nil => exact none_ne h
   | cons y ys =>
    obtain ⟨b1, b2, e1, e2, rfl⟩ := weqs_in h
    obtain ⟨c1, c2, e1', e2', rfl⟩ := weqs_in h'
    rw [weq_fun e1 e1' a1 a2, ih e2 e2' h2]
theorem veq_fun {h : Heap} {x x' y : V} {b b' : Bool} {v : Value} (e : veq x y = some b) (e' : veq x' y = some b') (hx : VR I k h x v) (hx' : VR I k h x' v) : b = b' := by
 rcases veq_in e with ⟨x, y, rfl, rfl, e0⟩ | ⟨xs, ys, rfl, rfl, e0⟩
 ·rcases veq_in e' with ⟨x', y', rfl, q, e0'⟩ | ⟨_, _, _, q, _⟩
  ·cases q; exact weq_fun e0 e0' hx hx'
  ·cases q
 ·rcases veq_in e' with ⟨_, _, _, q, _⟩ | ⟨xs', ys', rfl, q, e0'⟩
  ·cases q
  ·cases q
   obtain ⟨a, items, k1, rfl, h1, f1⟩ := hx
   obtain ⟨c, items2, k2, q, h2, f2⟩ := hx'
   cases q
   cases isT_same h1 h2
   exact weqs_fun e0 e0' f1 f2
theorem ex_cons {α : Type} {p : α → Prop} {a : α} {l : List α} : (∃ v, v ∈ a :: l ∧ p v) ↔ p a ∨ ∃ v, v ∈ l ∧ p v :=
 ⟨fun ⟨v, h, q⟩ => (List.mem_cons.mp h).elim (fun e => .inl (e ▸ q)) fun h => .inr ⟨v, h, q⟩, fun h => h.elim (fun q => ⟨a, .head _, q⟩) fun ⟨v, h, q⟩ => ⟨v, .tail _ h, q⟩⟩
theorem vin_mem {x : V} {vs : List V} {b : Bool} (h : vin x vs = some b) : (∀ v ∈ vs, ∃ c, veq v x = some c) ∧ (b = true ↔ ∃ v ∈ vs, veq v x = some true) := by
 induction vs generalizing b with
 | nil => cases h; exact ⟨(fun _ h => nomatch h), (fun h => nomatch h), (fun h => h.elim fun _ h => nomatch h.1)⟩
 | cons v vs ih =>
  obtain ⟨b1, b2, e1, e2, rfl⟩ := vin_in h
  have q := ih e2
  rw [List.forall_mem_cons, ex_cons, Bool.or_eq_true, q.2, e1]
  exact ⟨⟨⟨_, rfl⟩, q.1⟩, ⟨Or.imp_left (congrArg some), Or.imp_left Option.some.inj⟩⟩
open Classical in
theorem vin_at {x : V} {vs : List V} {b : Bool} {xa : Value} {xs : List Value} (hu : A.units < cLine) (e : vin x vs = some b) (hx : VR I k s.heap x xa) (hv : F2 (VR I k s.heap) vs xs) :
  ∃ f : Value → Bool, (∀ y, y ∈ xs → SeqAt.EqAt A s y xa (f y)) ∧ xs.any f = b := by
 obtain ⟨h1, h2⟩ := vin_mem e
 refine ⟨fun y => decide (∃ v ∈ vs, VR I k s.heap v y ∧ veq v x = some true), fun y hy => ?_, ?_⟩
 ·obtain ⟨v, m, r⟩ := hv.mem_right hy
  obtain ⟨c, ec⟩ := h1 v m
  have : decide (∃ v ∈ vs, VR I k s.heap v y ∧ veq v x = some true) = c := by
   cases c with
   | true => exact decide_eq_true ⟨v, m, r, ec⟩
   | false => exact decide_eq_false fun ⟨v', m', r', e'⟩ => by have := veq_fun ec e' r r'; cases this
  show SeqAt.EqAt A s y xa (decide (∃ v ∈ vs, VR I k s.heap v y ∧ veq v x = some true))
  rw [this]
  exact eqAt_v hu ec r hx
 ·rw [Bool.eq_iff_iff, h2, List.any_eq_true]
  constructor
  ·rintro ⟨y, _, h4⟩
   obtain ⟨v, m, _, e'⟩ := of_decide_eq_true h4
   exact ⟨v, m, e'⟩
  ·rintro ⟨v, m, e'⟩
   have key : ∀ {vs : List V} {xs : List Value}, F2 (VR I k s.heap) vs xs → v ∈ vs → ∃ y ∈ xs, VR I k s.heap v y := by
    intro vs xs h
    induction h with
    | nil => intro h; cases h
    | cons a _ ih =>
     intro h
     rcases List.mem_cons.mp h with rfl | h
     ·exact ⟨_, .head _, a⟩
     ·obtain ⟨y, h5, h6⟩ := ih h; exact ⟨y, .tail _ h5, h6⟩
   obtain ⟨y, hy, r⟩ := key hv m
   exact ⟨y, hy, decide_eq_true ⟨v, m, r, e'⟩⟩
end
noncomputable def Cop.op : Cop → CmpOp
 | .eq => .Eq | .ne => .NotEq | .lt => .Lt | .ge => .GtE | .in_ => .In | .notin => .NotIn | .isnot => .IsNot
section
variable {I : Inj} {mh : MH} {s : Shared} {A : Around} {Er : Value → Shared → Prop} {Q : Value → Shared → Prop}
theorem deq_hits {A : Around} {s : Shared} {fs : List (Int × Int)} {kb : List (Int × Value)} (hb : F2 (fun (e : Int × Int) (kv : Int × Value) => e.1 = kv.1 ∧ ∃ t, kv.2 = .int e.2 t) fs kb) :
  ∀ {es : List (Int × Int)} {ka : List (Int × Value)}, F2 (fun (e : Int × Int) (kv : Int × Value) => e.1 = kv.1 ∧ ∃ t, kv.2 = .int e.2 t) es ka →
   KeqHits A s kb ka (es.all fun p => decide (dget fs p.1 = some p.2))
 | _, _, .nil => .nil
 | e :: es, kv :: ka, .cons a h => by
  obtain ⟨k, v⟩ := kv
  obtain ⟨rfl, t, rfl⟩ := a
  have key : ∀ {fs : List (Int × Int)} {kb : List (Int × Value)}, F2 (fun (e : Int × Int) (kv : Int × Value) => e.1 = kv.1 ∧ ∃ t, kv.2 = .int e.2 t) fs kb → ∀ k,
    (dget fs k = none ∧ valueAt kb k = none) ∨ ∃ z t, dget fs k = some z ∧ valueAt kb k = some (.int z t) := by
   intro fs kb h k
   induction h with
   | nil => exact .inl ⟨rfl, rfl⟩
   | cons a _ ih =>
    rename_i x y xs ys _
    obtain ⟨x1, x2⟩ := x
    obtain ⟨y1, y2⟩ := y
    obtain ⟨rfl, t, rfl⟩ := a
    unfold dget valueAt at *
    by_cases hk : x1 = k
    ·right; refine ⟨x2, t, ?_, ?_⟩ <;> simp [hk]
    ·simpa [List.find?_cons, hk] using ih
  rw [List.all_cons]
  rcases key hb e.1 with ⟨h1, h2⟩ | ⟨z, t', h1, h2⟩
  ·have : decide (dget fs e.1 = some e.2) = false := by rw [h1]; rfl
   rw [this, Bool.false_and]
   exact .miss h2
  ·have : decide (dget fs e.1 = some e.2) = decide (e.2 = z) := by
    rw [h1]
    by_cases q : e.2 = z
    ·subst q; simp
    ·simp [q, Ne.symm q]
   rw [this]
   exact .hit h2 (fun prog w E Q hq => wpAny_eqBool_int hq) (deq_hits hb h)
theorem notSys (S : G.St I mh s) {l : Nat} (hl : l < mh.nxt) : (I.a l == sysModules) = false := by
 have h1 := S.fresh (I.a l) ⟨l, hl, .inl rfl⟩
 have h2 := G.sysm
 exact beq_eq_false_iff_ne.mpr (Nat.ne_of_gt (Nat.lt_of_lt_of_le h2 h1))
inductive LisR (I : Inj) (n : Nat) (h : Heap) (l : Nat) (vs : List V) : Prop
 | mk (d : I.d l = I.a l) (xs : List Value) (k : Nat) (hL : IsL h (I.a l) xs.toArray k) (f : F2 (VR I n h) vs xs)
theorem St.list (S : G.St I mh s) {l : Nat} {vs : List V} (hl : l < mh.nxt) (e : mh.get l = some (.list vs)) : LisR I mh.nxt s.heap l vs := by
 obtain ⟨o, h1, h2⟩ := S.obj l hl
 rw [e] at h1; cases h1; obtain ⟨a, b, c, d, e⟩ := h2; exact ⟨a, b, c, d, e⟩
theorem St.dict (S : G.St I mh s) {l : Nat} {es : List (Int × Int)} (hl : l < mh.nxt) (e : mh.get l = some (.dict es)) : I.d l = I.a l ∧ ∃ kvs : List (Int × Value), s.heap.DictOf (intKind G.prog G.w) (I.a l) kvs ∧
  F2 (fun (e : Int × Int) (kv : Int × Value) => e.1 = kv.1 ∧ ∃ t, kv.2 = .int e.2 t) es kvs := by
 obtain ⟨o, h1, h2⟩ := S.obj l hl
 rw [e] at h1; cases h1; exact h2
theorem ints_of {h : Heap} {ns : List Int} : ∀ {xs : List Value}, F2 (VR I mh.nxt h) (ns.map V.int) xs → IntsAre xs ns := by
 induction ns with
 | nil => intro xs h; cases h; exact .nil
 | cons n ns ih => intro xs h; cases h with | cons a h => obtain ⟨t, rfl⟩ := a; exact .cons n t (ih h)
theorem intsW_of {ns : List Int} : ∀ {xs : List Value}, F2 (WR I mh.nxt) (ns.map W.int) xs → IntsAre xs ns := by
 induction ns with
 | nil => intro xs h; cases h; exact .nil
 | cons n ns ih => intro xs h; cases h with | cons a h => obtain ⟨t, rfl⟩ := a; exact .cons n t (ih h)
theorem shaped_tup (ns : List Int) : SeqAt.shaped (.tuple (ns.map PyData.int)) = true := by
 simp [SeqAt.shaped, PyData.canLay0, PyData.depth, ke_canLayAll0, ke_depthAll]
theorem has_tup (ns : List Int) : (PySem.Spec.Shape.tuples .int).has (.tuple (ns.map PyData.int)) = true := by
 simp [PySem.Spec.Shape.has]
theorem same_tup (ns ms : List Int) : PySem.Spec.same (.tuple (ns.map PyData.int)) (.tuple (ms.map PyData.int)) = decide (ns = ms) := by
 rw [PySem.Spec.same, ke_sameAll]
theorem reads_tup {h : Heap} {a : Addr} {items : List Value} {k : Nat} {ns : List Int} (x : IsT h a items.toArray k) (hi : IntsAre items ns) : Reads h (.ref a) (.tuple (ns.map PyData.int)) [] :=
 .tuple x rfl rfl (readsAll_of_ints hi)
theorem ibeq (a b : Int) : (a == b) = decide (a = b) := by
 by_cases h : a = b <;> simp [h]
theorem cmp_sound {op : Cop} {va vb : V} {xa xb : Value} {P : Bool → Prop} (hA : AOk n A) (S : G.St I mh s) (hw : cmpop op va vb mh P) (ra : VR I mh.nxt s.heap va xa) (rb : VR I mh.nxt s.heap vb xb)
  (hQ : ∀ b tk, P b → Q (.bool b) { s with toks := tk }) : wpAny G.M A (compareOp op.op xa xb) Q Er s := by
 have hu : A.units < cLine := by have := hA.2.2; lia
 have hu1 : A.in1.units < cLine := by have := hA.2.2; show A.units + 1 < cLine; lia
 have hu64 : A.units + 64 < cLine := by have := hA.2.2; lia
 have hQs : ∀ b, P b → Q (.bool b) s := fun b h => hQ b s.toks h
 cases op
 ·obtain ⟨x, y, rfl, rfl, hw⟩ := onW_in hw
  cases x with
  | loc x =>
   cases y with
   | loc y =>
    obtain ⟨vs, ⟨e1, e2⟩, hp⟩ := hw
    obtain ⟨l1, rfl⟩ := ra; obtain ⟨l2, rfl⟩ := rb
    obtain ⟨_, xs, k1, h1, f1⟩ := S.list l1 e1
    obtain ⟨_, ys, k2, h2, f2⟩ := S.list l2 e2
    cases f2
    cases xs with
    | nil =>
     cases f1
     refine SeqAt.eq_listAt (e := fun _ => true) h1.isList h2.isList rfl hu (fun j z _ => absurd z (Nat.not_lt_zero _)) ?_
     exact hQs _ hp
    | cons x xs =>
     cases f1
     refine SeqAt.eq_list_lengthsAt h1.isList h2.isList (by simp) hu ?_
     exact hQs _ hp
   | _ => exact hw.elim
  | int x =>
   obtain ⟨b, e, hp⟩ := hw
   rcases weq_in e with ⟨_, z, q, rfl, rfl⟩ | ⟨_, _, q, _⟩ <;> cases q
   obtain ⟨t, rfl⟩ := ra; obtain ⟨u, rfl⟩ := rb
   exact PyProof.Rows.eq_int (by rw [ibeq]; exact hQs _ hp)
  | str x =>
   obtain ⟨b, e, hp⟩ := hw
   rcases weq_in e with ⟨_, _, q, _⟩ | ⟨_, z, q, rfl, rfl⟩ <;> cases q
   obtain ⟨t, rfl⟩ := ra; obtain ⟨u, rfl⟩ := rb
   exact PyProof.Rows.eq_str (by rw [txt_eq]; exact hQs _ hp)
  | _ =>
   obtain ⟨b, e, hp⟩ := hw
   exact none_ne e
 ·cases va with
  | w x =>
   cases vb with
   | w y =>
    cases x with
    | loc x =>
     cases y with
     | loc y =>
      obtain ⟨l1, rfl⟩ := ra; obtain ⟨l2, rfl⟩ := rb
      rcases hw with ⟨ns, ⟨e1, e2⟩, hp⟩ | ⟨es, fs, ⟨e1, e2, z1, z2⟩, hp⟩
      ·obtain ⟨_, xs, k1, h1, f1⟩ := S.list l1 e1
       obtain ⟨_, ys, k2, h2, f2⟩ := S.list l2 e2
       cases f2
       exact ke_ne_ints (ms := []) h1.isList h2.isList (ints_of f1) .nil hu64 (hQs _ hp)
      ·obtain ⟨_, ka, h1, f1⟩ := S.dict l1 e1
       obtain ⟨_, kb, h2, f2⟩ := S.dict l2 e2
       refine keq_ne (notSys S l1) (notSys S l2) h1 h2 hu (fun _ => deq_hits f2 f1) ?_
       have hl : (ka.length == kb.length) = decide (es.length = fs.length) := by
        rw [f1.length, f2.length]
        by_cases q : ka.length = kb.length <;> simp [q]
       rw [hl]
       exact hQs _ hp
     | _ => exact hw.elim
    | int x =>
     obtain ⟨b, e, hp⟩ := hw
     rcases weq_in e with ⟨_, z, q, rfl, rfl⟩ | ⟨_, _, q, _⟩ <;> cases q
     obtain ⟨t, rfl⟩ := ra; obtain ⟨u, rfl⟩ := rb
     exact PyProof.Rows.ne_int (by unfold bne; rw [ibeq]; exact hQs _ hp)
    | str x =>
     obtain ⟨b, e, hp⟩ := hw
     rcases weq_in e with ⟨_, _, q, _⟩ | ⟨_, z, q, rfl, rfl⟩ <;> cases q
     obtain ⟨t, rfl⟩ := ra; obtain ⟨u, rfl⟩ := rb
     exact PyProof.Rows.ne_str (by unfold bne; rw [txt_eq]; exact hQs _ hp)
    | _ =>
     obtain ⟨b, e, hp⟩ := hw
     exact none_ne e
   | _ => exact hw.elim
  | tup xs =>
   cases vb with
   | tup ys =>
    obtain ⟨ns, ms, ⟨rfl, rfl⟩, hp⟩ := hw
    obtain ⟨a, items, k1, rfl, h1, f1⟩ := ra
    obtain ⟨c, items2, k2, rfl, h2, f2⟩ := rb
    exact ne_dataH_same (reads_tup h1 (intsW_of f1)) (reads_tup h2 (intsW_of f2)) (shaped_tup _) (shaped_tup _) hu64 (SeqAt.noMix_of_shape (.tuples .int) rfl _ _ (has_tup _) (has_tup _)) (by rw [same_tup]; exact hQs _ hp)
   | _ => exact hw.elim
  | old _ => exact hw.elim
 ·obtain ⟨x, y, rfl, rfl, hw⟩ := onI_in hw
  obtain ⟨t, rfl⟩ := ra; obtain ⟨u, rfl⟩ := rb
  exact PyProof.Rows.lt_int (hQs _ hw)
 ·obtain ⟨x, y, rfl, rfl, hw⟩ := onI_in hw
  obtain ⟨t, rfl⟩ := ra; obtain ⟨u, rfl⟩ := rb
  exact PyProof.Rows.ge_int (hQs _ hw)
 ·cases vb with
  | w y =>
   cases y with
   | loc l =>
    obtain ⟨vs, b, ⟨e1, e2⟩, hp⟩ := hw
    obtain ⟨l1, rfl⟩ := rb
    obtain ⟨_, xs, k1, h1, f1⟩ := S.list l1 e1
    obtain ⟨f, hf, hb⟩ := vin_at (A := A.in1) hu1 e2 ra f1
    exact SeqAt.in_listAt f h1.isList (fun y hy => hf y (by simpa using hy)) (by rw [show (xs.toArray.any f) = b by simpa using hb]; exact hQs _ hp)
   | _ => exact hw.elim
  | _ => exact hw.elim
 ·cases vb with
  | w y =>
   cases y with
   | loc l =>
    obtain ⟨vs, b, ⟨e1, e2⟩, hp⟩ := hw
    obtain ⟨l1, rfl⟩ := rb
    obtain ⟨_, xs, k1, h1, f1⟩ := S.list l1 e1
    obtain ⟨f, hf, hb⟩ := vin_at (A := A.in1) hu1 e2 ra f1
    exact SeqAt.notIn_listAt f h1.isList (fun y hy => hf y (by simpa using hy)) (by rw [show (xs.toArray.any f) = b by simpa using hb]; exact hQs _ hp)
   | _ => exact hw.elim
  | _ => exact hw.elim
 ·cases va with
  | w x =>
   cases x with
   | none =>
    cases vb with
    | w y =>
     cases y with
     | none =>
      cases ra; cases rb
      exact wpAny_isNot_self rfl (hQs _ hw)
     | _ => exact hw.elim
    | _ => exact hw.elim
   | _ => exact hw.elim
  | _ => exact hw.elim
end
end Mine
end
section
namespace Mine
open PySem PySem.W PyProof.Rows PySem.Calls
variable {G : Gd} {C : CS} {n : Nat} {sc : Scope}
theorem room_line {k : Nat} (h : k ≤ room) : k ≤ sizeLine := by rw [sizeLine_eq]; unfold room at h; lia
noncomputable def Bop.op : Bop → Operator
 | .add => .Add | .sub => .Sub | .mul => .Mult | .div => .FloorDiv | .mod => .Mod | .bor => .BitOr | .shl => .LShift | .pow => .Pow
theorem bor_nat (m n : Nat) : Builtin.bitOr (m : Int) (n : Int) = ((m ||| n : Nat) : Int) := by
 unfold Builtin.bitOr
 have h1 : ¬ (0 : Int) ≤ Builtin.bitNot (m : Int) := by unfold Builtin.bitNot; lia
 have h2 : ¬ (0 : Int) ≤ Builtin.bitNot (n : Int) := by unfold Builtin.bitNot; lia
 rw [bitAnd_nn h1 h2, bitNot_bitNot, bitNot_bitNot, bitNot_bitNot]
 simp
section
variable {I : Inj} {mh : MH} {s : Shared} {A : Around} {Er : Value → Shared → Prop} {Q : Value → Shared → Prop}
theorem St.newList (S : G.St I mh s) (z : G.h₀.objs.size ≤ s.heap.objs.size) {vs : List V} {xs : List Value} {t : Tok} (f : F2 (VR I mh.nxt s.heap) vs xs) :
  G.St (I.put mh.nxt s.heap.objs.size s.heap.objs.size) (mh.new (.list vs)) { s with heap := s.heap.push { cls := .type "list", data := .seq xs.toArray }, toks := t } ∧
  Ext NoX I mh.nxt s.heap (I.put mh.nxt s.heap.objs.size s.heap.objs.size) (mh.new (.list vs)).nxt (s.heap.push { cls := .type "list", data := .seq xs.toArray }) := by
 refine S.alloc (s' := { s with heap := s.heap.push { cls := .type "list", data := .seq xs.toArray }, toks := t }) (fun b o e => Heap.get?_push_of_some _ e) (get_size _ _ (Nat.le_refl _)) (get_size _ _ (Nat.le_refl _)) z z rfl rfl ?_
 refine ⟨by rw [put_at.1, put_at.2], xs, 0, ?_, f.imp fun _ _ r => r.stay (Nat.le_succ _) (fun l hl => (put_lt hl).1) fun b o _ _ e _ _ => Heap.get?_push_of_some _ e⟩
 rw [put_at.1]
 exact Heap.get?_push_size _ rfl
theorem new_loc {h : Heap} {a : Addr} {o : MO} : VR (I.put mh.nxt a a) (mh.new o).nxt h (.loc mh.nxt) (.ref a) := ⟨Nat.lt_succ_self _, by rw [put_at.1]⟩
theorem rep_flat {α : Type} (v : α) : ∀ (n : Nat) (acc : Array α), List.foldl (fun x1 x2 => x1 ++ x2) acc (List.replicate n #[v]) = acc ++ (List.replicate n v).toArray
 | 0, acc => by simp
 | n + 1, acc => by
  rw [List.replicate_succ, List.foldl_cons, rep_flat v n]
  refine Array.ext' ?_
  simp [List.replicate_succ]
theorem bin_sound {op : Bop} {va vb : V} {xa xb : Value} {P : V → MH → Prop} (hA : AOk n A) (S : G.St I mh s) (z : G.h₀.objs.size ≤ s.heap.objs.size) (hw : binop op va vb mh P) (ra : VR I mh.nxt s.heap va xa) (rb : VR I mh.nxt s.heap vb xb)
  (hQ : ∀ v mh' x I' s', P v mh' → Ext NoX I mh.nxt s.heap I' mh'.nxt s'.heap → G.St I' mh' s' → VR I' mh'.nxt s'.heap v x → Q x s') : wpAny G.M A (binaryOp op.op xa xb) Q Er s := by
 have hi : ∀ (i : Int) t, P (.int i) mh → Q (.int i s.toks) { s with toks := t } := fun i t h => hQ _ _ _ I _ h .refl (S.toks _) ⟨_, rfl⟩
 cases op
 ·obtain ⟨x, y, rfl, rfl, hw⟩ := onW_in hw
  cases x with
  | int x =>
   cases y with
   | int y =>
    obtain ⟨t, rfl⟩ := ra; obtain ⟨u, rfl⟩ := rb
    exact PyProof.Rows.add_int (hi _ _ hw)
   | _ => exact hw.elim
  | loc x =>
   cases y with
   | loc y =>
    obtain ⟨l1, rfl⟩ := ra; obtain ⟨l2, rfl⟩ := rb
    obtain ⟨vs, ws, ⟨e1, e2, h3⟩, hp⟩ := hw
    obtain ⟨_, xs, k1, h1, f1⟩ := S.list l1 e1
    obtain ⟨_, ys, k2, h2, f2⟩ := S.list l2 e2
    refine PySem.P.add_list h1 h2 ?_ (by have := f1.length; have := f2.length; simp only [List.size_toArray]; exact room_line (by lia))
    have N := S.newList z (t := s.toks) (f1.append f2)
    rw [List.append_toArray]
    exact hQ _ _ _ _ _ hp N.2 N.1 new_loc
   | _ => exact hw.elim
  | _ => exact hw.elim
 ·obtain ⟨x, y, rfl, rfl, hw⟩ := onI_in hw
  obtain ⟨t, rfl⟩ := ra; obtain ⟨u, rfl⟩ := rb
  exact PyProof.Rows.sub_int (hi _ _ hw)
 ·obtain ⟨l, m, rfl, rfl, hw⟩ := onW_in hw
  cases m with
  | int m =>
   cases l with
   | int l =>
    obtain ⟨t, rfl⟩ := ra; obtain ⟨u, rfl⟩ := rb
    obtain ⟨rfl, hp⟩ := hw
    exact PyProof.Rows.mul_int (hi _ _ hp) (IntMulOk.of_left (intBits_le_64 (by decide) (by decide)))
   | loc l =>
    obtain ⟨l1, rfl⟩ := ra; obtain ⟨u, rfl⟩ := rb
    obtain ⟨v, ⟨e1, h2, h3⟩, hp⟩ := hw
    obtain ⟨_, xs, k1, h1, f1⟩ := S.list l1 e1
    cases f1 with
    | cons a f1 =>
    cases f1
    rename_i y
    refine wpAny_binaryOp_repeat_ref (T := "list") (U := "int") (by decide) ⟨_, h1, rfl⟩ (fun s' => typeIs_int s' m u) noFill_list_mul PySem.F.fills_int_mul PySem.F.slot_int_rmul repeat_list PySem.F.slot_int_index.lookup
     (call_meets PySem.F.slot_int_rmul (typeIs_int s m u) PySem.F.entry_int_rmul (PySem.F.args_int_rmul_2 _ _) (int___rmul___int_list m u _ _ k1)
      ⟨h1, rfl, ⟨_, h1, rfl⟩, call_meets PySem.F.slot_list_mul ⟨_, h1, rfl⟩ PySem.F.entry_list_mul (PySem.F.args_list_mul_2 _ _)
       (AutoListH.list___mul___list_int_3 _ _ k1 m u (by simp [Builtin.List.listFitsIndex]; lia) (by simp; lia) (by simp [Builtin.List.listTooLong, sizeLine]; lia))
       ⟨h1, ?_⟩⟩)
    have N := S.newList z (t := s.toks) (F2.replicate a m.toNat)
    have e : (List.foldl (fun x1 x2 => x1 ++ x2) #[] (List.replicate (if ([y].toArray).isEmpty = true then 0 else m.toNat) [y].toArray)) = (List.replicate m.toNat y).toArray := by
     rw [if_neg (by simp)]
     have := rep_flat y m.toNat #[]
     simpa using this
    rw [e]
    exact hQ _ _ _ _ _ hp N.2 N.1 new_loc
   | _ => exact hw.elim
  | _ => exact hw.elim
 ·obtain ⟨x, y, rfl, rfl, hw⟩ := onI_in hw
  obtain ⟨t, rfl⟩ := ra; obtain ⟨u, rfl⟩ := rb
  obtain ⟨⟨h1, h2⟩, hp⟩ := hw
  refine PyProof.Rows.floordiv_int (by lia) (by rw [Int.fdiv_eq_ediv_of_nonneg _ (by lia)]; exact hi _ _ hp) (.inl (PyProof.noPylong_small ?_))
  unfold small at h2; lia
 ·obtain ⟨x, y, rfl, rfl, hw⟩ := onI_in hw
  obtain ⟨t, rfl⟩ := ra; obtain ⟨u, rfl⟩ := rb
  obtain ⟨⟨h1, h2⟩, hp⟩ := hw
  exact PyProof.Rows.mod_int (by lia) (by rw [Int.fmod_eq_emod_of_nonneg _ (by lia)]; exact hi _ _ hp)
 ·obtain ⟨x, y, rfl, rfl, hw⟩ := onI_in hw
  obtain ⟨t, rfl⟩ := ra; obtain ⟨u, rfl⟩ := rb
  obtain ⟨p, q, ⟨rfl, rfl⟩, hp⟩ := hw
  exact PyProof.Rows.or_int (by rw [bor_nat]; exact hi _ _ hp)
 ·obtain ⟨x, y, rfl, rfl, hw⟩ := onI_in hw
  obtain ⟨t, rfl⟩ := ra; obtain ⟨u, rfl⟩ := rb
  obtain ⟨p, ⟨rfl, rfl, h3⟩, hp⟩ := hw
  refine PyProof.Rows.lshift_int_small (by lia) (by lia) (by decide) ?_
  rw [show (1 : Int) * 2 ^ (p : Int).toNat = ((2 ^ p : Nat) : Int) by simp]
  exact hi _ _ hp
 ·obtain ⟨x, y, rfl, rfl, hw⟩ := onI_in hw
  obtain ⟨t, rfl⟩ := ra; obtain ⟨u, rfl⟩ := rb
  obtain ⟨p, ⟨rfl, rfl, h3⟩, hp⟩ := hw
  refine PyProof.Rows.pow_int (by lia) ?_ ?_
  ·have : (Builtin.Int.intBits 2 : Int) ≤ 64 := by decide +kernel
   have h4 : (0 : Int) ≤ (p : Int) := by lia
   calc (Builtin.Int.intBits 2 : Int) * p ≤ 64 * p := Int.mul_le_mul_of_nonneg_right this h4
    _ ≤ 2 ^ 27 := by lia
  ·rw [show (2 : Int) ^ (p : Int).toNat = ((2 ^ p : Nat) : Int) by simp]
   exact hi _ _ hp
end
theorem snd_bin {op : Bop} {o : Operator} {a b : E} {ea eb : Expr} {pos : Pos} (Ha : SndE G C n sc a ea) (Hb : SndE G C n sc b eb) (ho : o = op.op := by rfl) : SndE G C n sc (.bin op a b) (.BinOp ea o eb pos) :=
 fun A env me I mh s Qm Q Er hA hs S R hw hQ => by
  subst ho
  exact wpAny_BinOp (snd_two Ha Hb hA hs S R hw fun va vb mh' xa xb I' s' hb e S' R' ra rb => bin_sound hA S' R'.size hb ra rb fun v mh'' x I'' s'' hp e' S'' r => hQ _ _ _ _ _ hp (e.trans e') S'' r)
theorem snd_cmp {op : Cop} {o : CmpOp} {a b : E} {ea eb : Expr} {pos : Pos} (Ha : SndE G C n sc a ea) (Hb : SndE G C n sc b eb) (ho : o = op.op := by rfl) (hm : behindInMarks op.op eb = false := by rfl) :
  SndE G C n sc (.cmp op a b) (.Compare ea [o] [eb] pos) := fun A env me I mh s Qm Q Er hA hs S R hw hQ => by
 subst ho
 exact wpAny_Compare1 (snd_two Ha Hb hA hs S R hw fun va vb mh' xa xb I' s' hb e S' R' ra rb => cmp_sound hA S' hb ra rb fun b tk hp => hQ _ _ _ _ _ hp e (S'.toks _) rfl) hm
theorem sndT_cmp {op : Cop} {o : CmpOp} {a b : E} {ea eb : Expr} {pos : Pos} (Ha : SndE G C n sc a ea) (Hb : SndE G C n sc b eb) (ho : o = op.op := by rfl) (hm : behindInMarks op.op eb = false := by rfl) :
  SndT G C n sc (.cmp op a b) (.Compare ea [o] [eb] pos) := fun A env me I mh s Qm Q Er hA hs S R hw hQ => by
 subst ho
 exact wpAny_isTrue_Compare1 (snd_two Ha Hb hA hs S R hw fun va vb mh' xa xb I' s' hb e S' R' ra rb => cmp_sound hA S' hb ra rb fun b tk hp => wpAny_truthy_bool (hQ _ _ _ _ hp e (S'.toks _))) hm
theorem sndT_val {e : E} {ex : Expr} (H : SndE G C n sc e ex) (he : ∀ env, isTrue ex env (eval ex env) = (do let v ← eval ex env; standAt ex.pos; holding [v] (truthy v)) := by intro _; rfl) : SndT G C n sc (.val e) ex :=
 fun A env me I mh s Qm Q Er hA hs S R hw hQ =>
  wpAny_isTrue_value (H A env me I mh s _ _ _ hA hs S R hw fun v mh' x I' s' ⟨b, hv, hp⟩ e S' r => by
   subst hv; cases r
   exact wpAny_truthy_bool (hQ _ _ _ _ hp e S')) (he env)
theorem sndT_not {t : T} {ex : Expr} {pos : Pos} (H : SndT G C n sc t ex) : SndT G C n sc (.not t) (.UnaryOp .Not ex pos) := fun A env me I mh s Qm Q Er hA hs S R hw hQ =>
 wpAny_isTrue_Not (H A env me I mh s _ _ _ hA hs S R hw fun b mh' I' s' hp e S' => hQ _ _ _ _ hp e S')
theorem sndT_and {a b : T} {ea eb : Expr} {pos : Pos} (Ha : SndT G C n sc a ea) (Hb : SndT G C n sc b eb) : SndT G C n sc (.and a b) (.BoolOp .And [ea, eb] pos) := fun A env me I mh s Qm Q Er hA hs S R hw hQ => by
 refine wpAny_isTrue_BoolOp (wpAny_allTrue_And_cons (Ha A env me I mh s _ _ _ hA hs S R hw fun b mh' I' s' hp e S' => ?_))
 cases b with
 | false => simp only [Bool.false_eq_true, if_false] at hp ⊢; exact hQ _ _ _ _ hp e S'
 | true =>
  simp only [if_true] at hp ⊢
  refine wpAny_allTrue_And_cons (Hb A env me I' mh' s' _ _ _ hA hs S' (R.next S e S') hp fun b mh'' I'' s'' hp' e' S'' => ?_)
  cases b with
  | false => simp only [Bool.false_eq_true, if_false]; exact hQ _ _ _ _ hp' (e.trans e') S''
  | true => simp only [if_true]; exact wpAny_allTrue_And_nil (hQ _ _ _ _ hp' (e.trans e') S'')
theorem sndT_or {a b : T} {ea eb : Expr} {pos : Pos} (Ha : SndT G C n sc a ea) (Hb : SndT G C n sc b eb) : SndT G C n sc (.or a b) (.BoolOp .Or [ea, eb] pos) := fun A env me I mh s Qm Q Er hA hs S R hw hQ => by
 refine wpAny_isTrue_BoolOp (wpAny_allTrue_Or_cons (Ha A env me I mh s _ _ _ hA hs S R hw fun b mh' I' s' hp e S' => ?_))
 cases b with
 | true => simp only [if_true] at hp ⊢; exact hQ _ _ _ _ hp e S'
 | false =>
  simp only [Bool.false_eq_true, if_false] at hp ⊢
  refine wpAny_allTrue_Or_cons (Hb A env me I' mh' s' _ _ _ hA hs S' (R.next S e S') hp fun b mh'' I'' s'' hp' e' S'' => ?_)
  cases b with
  | true => simp only [if_true]; exact hQ _ _ _ _ hp' (e.trans e') S''
  | false => simp only [Bool.false_eq_true, if_false]; exact wpAny_pure (hQ _ _ _ _ hp' (e.trans e') S'')
theorem snd_ite {t : T} {a b : E} {et ea eb : Expr} {pos : Pos} (Ht : SndT G C n sc t et) (Ha : SndE G C n sc a ea) (Hb : SndE G C n sc b eb) : SndE G C n sc (.ite t a b) (.IfExp et ea eb pos) :=
 fun A env me I mh s Qm Q Er hA hs S R hw hQ => by
  refine wpAny_IfExp (Ht A env me I mh s _ _ _ hA hs S R hw fun r mh' I' s' hp e S' => ?_)
  cases r with
  | true =>
   simp only [if_true] at hp ⊢
   exact Ha A env me I' mh' s' _ _ _ hA hs S' (R.next S e S') hp fun v mh'' x I'' s'' hp' e' S'' r => hQ _ _ _ _ _ hp' (e.trans e') S'' r
  | false =>
   simp only [Bool.false_eq_true, if_false] at hp ⊢
   exact Hb A env me I' mh' s' _ _ _ hA hs S' (R.next S e S') hp fun v mh'' x I'' s'' hp' e' S'' r => hQ _ _ _ _ _ hp' (e.trans e') S'' r
theorem snd_negOne {k : Nat} {p pos : Pos} : SndE G C n sc .negOne (.UnaryOp .USub (.Constant (.int 1) k p) pos) := fun A env me I mh s Qm Q Er hA hs S R hw hQ =>
 wpAny_UnaryOp (wpAny_Constant_int (PySem.P.neg_int (hQ _ _ _ _ _ hw .refl (S.toks _) ⟨_, rfl⟩)))
theorem snd_list {es : Es} {exs : List Expr} {pos : Pos} (H : SndEs G C n sc es exs) : SndE G C n sc (.list es) (.List exs pos) := fun A env me I mh s Qm Q Er hA hs S R hw hQ => by
 refine List_ (H pos A env me I mh s _ _ _ hA hs S R hw fun vs mh' xs I' s' ⟨hz, hp⟩ e S' r => ?_)
 refine wpAny_newObj_type ?_ (by show xs.toArray.size ≤ sizeLine; have := F2.length r; rw [List.size_toArray]; exact room_line (by unfold room; lia))
 have N := S'.newList ((R.next S e S').size) (t := s'.toks) r
 exact hQ _ _ _ _ _ hp (e.trans N.2) N.1 new_loc
theorem snd_tup {es : Es} {exs : List Expr} {k : Nat} {pos : Pos} (H : SndEs G C n sc es exs) : SndE G C n sc (.tup es) (.Tuple exs k pos) := fun A env me I mh s Qm Q Er hA hs S R hw hQ => by
 refine Tuple_ (H pos A env me I mh s _ _ _ hA hs S R hw fun vs mh' xs I' s' ⟨ws, ⟨hv, hz⟩, hp⟩ e S' r => ?_)
 subst hv
 have r' := F2.map_left r
 refine wpAny_newObj_type ?_ (by show xs.toArray.size ≤ sizeLine; have := F2.length r'; rw [List.size_toArray]; exact room_line (by unfold room; lia))
 have k : ∀ b o, s'.heap.get? b = some o → (s'.heap.push { cls := .type "tuple", data := .seq xs.toArray }).get? b = some o := fun b o e => Heap.get?_push_of_some _ e
 exact hQ _ _ _ _ _ hp (e.trans (Ext.ofKeep k)) (S'.keep k rfl rfl) ⟨s'.heap.objs.size, xs, 0, rfl, Heap.get?_push_size _ rfl, r'⟩
end Mine
end
section
namespace Mine
open PySem PySem.W PyProof.Rows PySem.Calls
variable {G : Gd} {C : CS} {n : Nat} {sc : Scope}
section
variable {A : Around} {Er : Value → Shared → Prop} {s : Shared} {prog : Program} {w : World}
theorem getItem_upto {t sl : Addr} {items : Array Value} {k b : Nat} {u : Tok} {Q : Value → Shared → Prop} (ht : IsT s.heap t items k) (hs : s.heap.IsSliceOf sl .none (.int b u) .none) (hb : b < items.size)
  (h : Q (.ref s.heap.objs.size) { s with heap := s.heap.push { cls := .type "tuple", data := .seq (items.toList.take b).toArray } })
  (hsz : items.size ≤ sizeLine) : wpAny (model prog w) A (getItem (.ref t) (.ref sl)) Q Er s := by
 have hz : sizeOk (.seq (items.toList.take b).toArray) := by
  show (items.toList.take b).toArray.size ≤ sizeLine
  rw [List.size_toArray, List.length_take, Array.length_toList]
  lia
 obtain ⟨os, hos, hcs, hds⟩ := id hs
 have ht' : IsTup s.heap t items := ⟨_, ht, rfl, k, rfl⟩
 have hTs : s.TypeIs (.ref sl) "slice" := ⟨os, hos, hcs⟩
 unfold getItem
 try with_reducible refine wpAny_holding ?_
 first | refine wpAny_bind (wpAny_pure ?_) | skip
 refine wpAny_bind (wpAny_sequenceKey ht'.typeIs (by decide) ?_)
 refine wpAny_bind (wpAny_callSpecial?_slot (name := Str.ofString "__getitem__") ht'.typeIs slot_tuple_getitem
  (wpAny_call_entry slot_tuple_getitem ht'.typeIs entry_tuple_getitem ?_ (args_tuple_getitem _ _)))
 show wpAny _ _ (Builtin.Tuple.tupleItemsOf (.ref t) >>= _) _ _ s
 refine wpAny_bind (tupleItemsOf_ ht' ?_)
 refine wpAny_bind (wpAny_typeOf hTs ?_)
 rw [if_pos (by decide)]
 refine wpAny_bind ?_
 unfold Builtin.Slice.sliceApplied Builtin.Slice.sliceFields
 refine wpAny_bind (wpAny_bind (wpAny_field hos hds (x := .none) rfl (wpAny_bind (wpAny_field hos hds (x := .int b u) rfl (wpAny_bind (wpAny_field hos hds (x := .none) rfl (wpAny_pure ?_)))))))
 refine wpAny_bind (slicePart_none ?_)
 show wpAny _ _ (if ((1 : Int) == 0) = true then _ else _) _ _ s
 rw [if_neg (by decide)]
 refine wpAny_bind (slicePart_none (wpAny_bind (slicePart_int (wpAny_bind (wpAny_pure ?_)))))
 have hadj : Builtin.Slice.sliceAdjust none (some (b : Int)) 1 (items.size : Int) = ((0 : Int), (b : Int)) := by
  unfold Builtin.Slice.sliceAdjust
  have h1 : ¬ ((1 : Int) < 0) := by lia
  have h2 : ¬ ((b : Int) < 0) := by lia
  simp only [h1, h2, if_false]
  congr 1
  lia
 have hpl : Builtin.Slice.slicePlaces 0 (b : Int) 1 = b := by
  unfold Builtin.Slice.slicePlaces
  have h1 : (1 : Int) > 0 := by lia
  simp only [h1, if_true, Int.ediv_one]
  split <;> lia
 show wpAny _ _ (match Builtin.Slice.sliceAdjust none (some (b : Int)) 1 (items.size : Int) with | (lo, hi) => pure (lo, (1 : Int), Builtin.Slice.slicePlaces lo hi 1)) _ _ s
 rw [hadj]
 show wpAny _ _ (pure ((0 : Int), (1 : Int), Builtin.Slice.slicePlaces 0 (b : Int) 1)) _ _ s
 rw [hpl]
 refine wpAny_pure ?_
 have hno : ¬ (((0 : Int) == 0 && (1 : Int) == 1 && b == items.size) = true) := by
  have : (b == items.size) = false := by rw [beq_eq_false_iff_ne]; lia
  rw [this]; simp
 show wpAny _ _ (if ((0 : Int) == 0 && (1 : Int) == 1 && b == items.size) = true then _ else _) _ _ s
 rw [if_neg hno]
 have hp : ((List.range b).filterMap fun (k : Nat) => items[((0 : Int) + (k : Int) * 1).toNat]?).toArray = (items.toList.take b).toArray := by
  have e : (fun (k : Nat) => items[((0 : Int) + (k : Int) * 1).toNat]?) = fun k => items[0 + k]? := by
   funext k
   have : ((0 : Int) + (k : Int) * 1).toNat = 0 + k := by lia
   rw [this]
  rw [e]
  have := pick_run items 0 b
  rw [List.filterMap_map] at this
  have e2 : ((fun x => items[x]?) ∘ fun x => 0 + x) = fun k => items[0 + k]? := rfl
  rw [e2] at this
  rw [this, List.drop_zero]
 rw [hp]
 first
  | exact wpAny_bind (m := Builtin.Tuple.tupleExact _) (wpAny_newObj_type (wpAny_pure ⟨_, rfl, wpAny_pure h⟩) hz)
  | exact wpAny_bind (m := Builtin.Tuple.tupleExact _) (wpAny_newObj_type (wpAny_bind (wpAny_pure (wpAny_pure ⟨_, rfl, wpAny_pure h⟩))) hz)
  | exact wpAny_bind (wpAny_bind (m := Builtin.Tuple.tupleExact _) (wpAny_newObj_type (wpAny_pure (wpAny_pure ⟨_, rfl, wpAny_pure h⟩)) hz))
  | exact wpAny_bind (wpAny_bind (m := Builtin.Tuple.tupleExact _) (wpAny_newObj_type (wpAny_pure ⟨_, rfl, wpAny_pure h⟩) hz))
end
section
variable {I : Inj} {mh : MH} {s : Shared} {A : Around} {Er : Value → Shared → Prop} {Q : Value → Shared → Prop}
theorem F2.valueAt {K : Type} [DecidableEq K] {α : Type} [DecidableEq α] {f : α → K} (inj : ∀ a b, f a = f b → a = b) {es : List (α × Int)} {kvs : List (K × Value)}
  (h : F2 (fun (e : α × Int) (kv : K × Value) => f e.1 = kv.1 ∧ ∃ t, kv.2 = .int e.2 t) es kvs) (k : α) :
  (dget es k = none ∧ PySem.valueAt kvs (f k) = none) ∨ ∃ z t, dget es k = some z ∧ PySem.valueAt kvs (f k) = some (.int z t) := by
 induction h with
 | nil => exact .inl ⟨rfl, rfl⟩
 | cons a _ ih =>
  rename_i x y xs ys _
  obtain ⟨x1, x2⟩ := x
  obtain ⟨y1, y2⟩ := y
  obtain ⟨rfl, t, rfl⟩ := a
  unfold dget PySem.valueAt at *
  by_cases hk : x1 = k
  ·right; refine ⟨x2, t, ?_, ?_⟩ <;> simp [hk]
  ·have hk' : ¬ f x1 = f k := fun e => hk (inj _ _ e)
   simpa [List.find?_cons, hk, hk'] using ih
theorem St.sdict (S : G.St I mh s) {l : Nat} {es : List (Nm × Int)} (hl : l < mh.nxt) (e : mh.get l = some (.sdict es)) : I.d l = I.a l ∧ ∃ kvs : List (Str × Value), s.heap.DictOf (strKind G.prog G.w) (I.a l) kvs ∧
  F2 (fun (e : Nm × Int) (kv : Str × Value) => e.1.txt = kv.1 ∧ ∃ t, kv.2 = .int e.2 t) es kvs := by
 obtain ⟨o, h1, h2⟩ := S.obj l hl
 rw [e] at h1; cases h1; exact h2
theorem small63 {i : Int} (h : small i) : -(2 ^ 63) ≤ i ∧ i < 2 ^ 63 := by unfold small at h; lia
theorem sub_sound {va vb : V} {xa xb : Value} {P : V → Prop} {value slice : Expr} (S : G.St I mh s) (hw : subop va vb mh P) (ra : VR I mh.nxt s.heap va xa) (rb : VR I mh.nxt s.heap vb xb)
  (hs : ∀ o i, subscripted slice false o i = operate [o, i] (getItem o i))
  (hQ : ∀ v x tk, P v → VR I mh.nxt s.heap v x → Q x { s with toks := tk }) : wpAny G.M A (subscriptTail value slice xa xb) Q Er s := by
 cases va with
 | w x =>
  cases x with
  | loc l =>
   obtain ⟨l1, rfl⟩ := ra
   rcases hw with ⟨vs, i, v, ⟨e1, rfl, h0, h1, h2⟩, hp⟩ | ⟨es, i, v, ⟨e1, rfl, h2⟩, hp⟩ | ⟨es, m, v, ⟨e1, rfl, h2⟩, hp⟩
   ·obtain ⟨u, rfl⟩ := rb
    obtain ⟨_, xs, k1, hl, f1⟩ := S.list l1 e1
    obtain ⟨x, hx, r⟩ := f1.get h2
    exact tail_any hl.isList.typeIs slot_list_getitem.lookup (wpAny_getItem_list hl.isList h0 (small63 h1).2 (by simpa using hx) (hQ _ _ _ hp r)) (hs _ _)
   ·obtain ⟨u, rfl⟩ := rb
    obtain ⟨_, kvs, hd, f1⟩ := S.dict l1 e1
    rcases F2.valueAt (f := id) (fun _ _ e => e) f1 i with ⟨q1, q2⟩ | ⟨z, t, q1, q2⟩
    ·rw [h2] at q1; cases q1
    ·rw [h2] at q1; cases q1
     exact tail_any hd.typeIs slot_dict_getitem.lookup (wpAny_getItem_of (knd := intKind G.prog G.w) (k := i) (intKind_is _ _ _ _) hd.mapOf q2 (hQ _ _ _ hp ⟨t, rfl⟩)) (hs _ _)
   ·obtain ⟨u, rfl⟩ := rb
    obtain ⟨_, kvs, hd, f1⟩ := S.sdict l1 e1
    rcases F2.valueAt (f := Nm.txt) (fun _ _ e => Nm.inj e) f1 m with ⟨q1, q2⟩ | ⟨z, t, q1, q2⟩
    ·rw [h2] at q1; cases q1
    ·rw [h2] at q1; cases q1
     exact tail_any hd.typeIs slot_dict_getitem.lookup (wpAny_getItem_of (knd := PySem.strKind G.prog G.w) (k := m.txt) (strKind_is _ _ _ _) hd.mapOf q2 (hQ _ _ _ hp ⟨t, rfl⟩)) (hs _ _)
  | _ => exact hw.elim
 | tup ws =>
  cases vb with
  | w y =>
   cases y with
   | int i =>
    obtain ⟨a, items, k, rfl, ht, f1⟩ := ra
    obtain ⟨u, rfl⟩ := rb
    obtain ⟨v, ⟨h0, h1, h2⟩, hp⟩ := hw
    obtain ⟨x, hx, r⟩ := f1.get h2
    have hlt : i.toNat < items.length := by
     rw [List.getElem?_eq_some_iff] at hx; exact hx.1
    have hj : seqIndex? i items.toArray.size = some i.toNat := by
     unfold seqIndex?
     simp only [List.size_toArray]
     have : i < (items.length : Int) := by lia
     split <;> simp_all <;> lia
    refine tail_any (s := s) ⟨_, ht, rfl⟩ slot_tuple_getitem.lookup (PySem.P.getItem_tuple ht (small63 h1).1 (small63 h1).2 hj (by simpa using hx) (hQ _ _ _ hp r)) (hs _ _)
   | _ => exact hw.elim
  | _ => exact hw.elim
 | old _ => exact hw.elim
end
theorem snd_sub {a b : E} {ea eb : Expr} {pos : Pos} (Ha : SndE G C n sc a ea) (Hb : SndE G C n sc b eb) (hs : ∀ o i, subscripted eb false o i = operate [o, i] (getItem o i) := by intro _ _; rfl) :
  SndE G C n sc (.sub a b) (.Subscript ea eb pos) := fun A env me I mh s Qm Q Er hA hsc S R hw hQ =>
 Subscript_ (snd_two Ha Hb hA hsc S R hw fun va vb mh' xa xb I' s' hb e S' R' ra rb => sub_sound S' hb ra rb hs fun v x tk hp r => hQ _ _ _ _ _ hp e (S'.toks _) r)
section
variable {I : Inj} {mh : MH} {s : Shared} {A : Around} {Er : Value → Shared → Prop} {Q : Value → Shared → Prop}
theorem cutTo_pick {xs : List Value} (i : Int) : slicePick xs.toArray none (some i) none = (cutTo xs i).toArray := by
 unfold cutTo
 split
 ·rename_i h
  obtain ⟨k, rfl⟩ := Int.eq_ofNat_of_zero_le h
  rw [slicePick_upto']; simp
 ·rename_i h
  obtain ⟨k, hk⟩ : ∃ k : Nat, i = -(k : Int) := ⟨(-i).toNat, by lia⟩
  subst hk
  rw [slicePick_butLast _ _ (by lia)]; simp
theorem F2.cutTo {α β : Type} {R : α → β → Prop} {xs : List α} {ys : List β} (h : F2 R xs ys) (i : Int) : F2 R (Mine.cutTo xs i) (Mine.cutTo ys i) := by
 unfold Mine.cutTo
 split
 ·exact h.take _
 ·rw [h.length]; exact h.take _
theorem ints_to {h : Heap} {k : Nat} {ns : List Int} {xs : List Value} (f : IntsAre xs ns) : F2 (VR I k h) (ns.map V.int) xs := by
 induction f with
 | nil => exact .nil
 | cons n t _ ih => exact .cons ⟨t, rfl⟩ ih
theorem slTo_sound {va vb : V} {xa xb : Value} {P : V → MH → Prop} {value slice : Expr} (S : G.St I mh s) (z : G.h₀.objs.size ≤ s.heap.objs.size) (hw : slToop va vb mh P) (ra : VR I mh.nxt s.heap va xa) (rb : VR I mh.nxt s.heap vb xb)
  (hs : ∀ o i, subscripted slice false o i = operate [i, o] (getItem o i))
  (hQ : ∀ v mh' x I' s', P v mh' → Ext NoX I mh.nxt s.heap I' mh'.nxt s'.heap → G.St I' mh' s' → VR I' mh'.nxt s'.heap v x → Q x s') :
  wpAny G.M A (subscriptTail value slice xa (.ref s.heap.objs.size)) Q Er { s with heap := s.heap.push { cls := .type "slice", data := .fields #[.none, xb, .none] } } := by
 cases vb with
 | w y =>
  cases y with
  | int i =>
   obtain ⟨u, rfl⟩ := rb
   have k : ∀ b o, s.heap.get? b = some o → (s.heap.push { cls := .type "slice", data := .fields #[.none, .int i u, .none] }).get? b = some o := fun b o e => Heap.get?_push_of_some _ e
   have S1 : G.St I mh { s with heap := s.heap.push { cls := .type "slice", data := .fields #[.none, .int i u, .none] } } := S.keep k rfl rfl
   have e1 : Ext NoX I mh.nxt s.heap I mh.nxt (s.heap.push { cls := .type "slice", data := .fields #[.none, .int i u, .none] }) := Ext.ofKeep k
   have z1 : G.h₀.objs.size ≤ (s.heap.push { cls := .type "slice", data := .fields #[.none, .int i u, .none] }).objs.size := by rw [Heap.size_push]; lia
   cases va with
   | w x =>
    cases x with
    | loc l =>
     obtain ⟨l1, rfl⟩ := ra
     obtain ⟨vs, ⟨q1, h1, h2⟩, hp⟩ := hw
     obtain ⟨_, xs, k1, hl, f1⟩ := S1.list l1 q1
     refine tail_any hl.isList.typeIs slot_list_getitem.lookup (wpAny_getItem_list_slice hl.isList (Heap.IsSliceOf.new ..) .none (.int _ _) .none nofun ?_ (by have := f1.length; simp only [List.size_toArray]; exact room_line (by lia))) (hs _ _)
     rw [cutTo_pick]
     have N := S1.newList z1 (t := s.toks) (F2.cutTo f1 i)
     exact hQ _ _ _ _ _ hp (e1.trans N.2) N.1 new_loc
    | _ => exact hw.elim
   | tup ws =>
    obtain ⟨a, items, k1, rfl, ht, f1⟩ := ra
    obtain ⟨⟨h1, h2, h3⟩, hp⟩ := hw
    obtain ⟨j, rfl⟩ := Int.eq_ofNat_of_zero_le h1
    have hl := f1.length
    refine tail_any (s := { s with heap := s.heap.push _ }) ⟨_, k _ _ ht, rfl⟩ slot_tuple_getitem.lookup (getItem_upto (k := k1) (k _ _ ht) (Heap.IsSliceOf.new ..) (by simp; lia) ?_ (by simp only [List.size_toArray]; exact room_line (by lia))) (hs _ _)
    refine hQ _ mh _ I _ hp (e1.trans (Ext.ofKeep fun b o e => Heap.get?_push_of_some _ e)) (S1.keep (fun b o e => Heap.get?_push_of_some _ e) rfl rfl) ⟨_, items.take j, 0, rfl, Heap.get?_push_size _ rfl, ?_⟩
    simpa using f1.take j
   | old a =>
    cases ra
    obtain ⟨ns, ⟨q1, h1, h2⟩, hp⟩ := hw
    obtain ⟨xs, ⟨o, hl0, hlc, hld⟩, hi⟩ := S.olds a ns q1
    have hl' : (s.heap.push { cls := .type "slice", data := .fields #[.none, .int i u, .none] }).IsList a xs.toArray := ⟨o, S1.base _ _ hl0, hlc, hld⟩
    have hln := IntsAre.length hi
    refine tail_any hl'.typeIs slot_list_getitem.lookup (wpAny_getItem_list_slice hl' (Heap.IsSliceOf.new ..) .none (.int _ _) .none nofun ?_ (by simp only [List.size_toArray]; exact room_line (by lia))) (hs _ _)
    rw [cutTo_pick]
    have N := S1.newList z1 (t := s.toks) (F2.cutTo (ints_to hi) i)
    exact hQ _ _ _ _ _ hp (e1.trans N.2) N.1 new_loc
  | _ => exact hw.elim
 | _ => exact hw.elim
theorem slFrom_sound {va vb : V} {xa xb : Value} {P : V → MH → Prop} {value slice : Expr} (S : G.St I mh s) (z : G.h₀.objs.size ≤ s.heap.objs.size) (hw : slFromop va vb mh P) (ra : VR I mh.nxt s.heap va xa) (rb : VR I mh.nxt s.heap vb xb)
  (hs : ∀ o i, subscripted slice false o i = operate [i, o] (getItem o i))
  (hQ : ∀ v mh' x I' s', P v mh' → Ext NoX I mh.nxt s.heap I' mh'.nxt s'.heap → G.St I' mh' s' → VR I' mh'.nxt s'.heap v x → Q x s') :
  wpAny G.M A (subscriptTail value slice xa (.ref s.heap.objs.size)) Q Er { s with heap := s.heap.push { cls := .type "slice", data := .fields #[xb, .none, .none] } } := by
 cases vb with
 | w y =>
  cases y with
  | int i =>
   obtain ⟨u, rfl⟩ := rb
   have k : ∀ b o, s.heap.get? b = some o → (s.heap.push { cls := .type "slice", data := .fields #[.int i u, .none, .none] }).get? b = some o := fun b o e => Heap.get?_push_of_some _ e
   have S1 : G.St I mh { s with heap := s.heap.push { cls := .type "slice", data := .fields #[.int i u, .none, .none] } } := S.keep k rfl rfl
   have e1 : Ext NoX I mh.nxt s.heap I mh.nxt (s.heap.push { cls := .type "slice", data := .fields #[.int i u, .none, .none] }) := Ext.ofKeep k
   have z1 : G.h₀.objs.size ≤ (s.heap.push { cls := .type "slice", data := .fields #[.int i u, .none, .none] }).objs.size := by rw [Heap.size_push]; lia
   cases va with
   | w x =>
    cases x with
    | loc l =>
     obtain ⟨l1, rfl⟩ := ra
     obtain ⟨vs, ⟨q1, h0, h1, h2⟩, hp⟩ := hw
     obtain ⟨_, xs, k1, hl, f1⟩ := S1.list l1 q1
     obtain ⟨j, rfl⟩ := Int.eq_ofNat_of_zero_le h0
     refine tail_any hl.isList.typeIs slot_list_getitem.lookup (wpAny_getItem_list_slice hl.isList (Heap.IsSliceOf.new ..) (.int _ _) .none .none nofun ?_ (by have := f1.length; simp only [List.size_toArray]; exact room_line (by lia))) (hs _ _)
     rw [slicePick_from']
     have N := S1.newList z1 (t := s.toks) (f1.drop j)
     exact hQ _ _ _ _ _ hp (e1.trans N.2) N.1 new_loc
    | _ => exact hw.elim
   | tup ws =>
    obtain ⟨a, items, k1, rfl, ht, f1⟩ := ra
    obtain ⟨⟨h1, h2, h3⟩, hp⟩ := hw
    obtain ⟨j, rfl⟩ := Int.eq_ofNat_of_zero_le (a := i) (by lia)
    have hl := f1.length
    refine tail_any (s := { s with heap := s.heap.push _ }) ⟨_, k _ _ ht, rfl⟩ slot_tuple_getitem.lookup (getItem_tuple_from (a := j) ⟨_, k _ _ ht, rfl, k1, rfl⟩ (Heap.IsSliceOf.new ..) (by lia) (by simp; lia) ?_ (by simp only [List.size_toArray]; exact room_line (by lia))) (hs _ _)
    refine hQ _ mh _ I _ hp (e1.trans (Ext.ofKeep fun b o e => Heap.get?_push_of_some _ e)) (S1.keep (fun b o e => Heap.get?_push_of_some _ e) rfl rfl) ⟨_, items.drop j, 0, rfl, Heap.get?_push_size _ rfl, ?_⟩
    simpa using f1.drop j
   | old a =>
    exact hw.elim
  | _ => exact hw.elim
 | _ => exact hw.elim
end
theorem evalPart_e {env : PySem.Env} {A : Around} {Er : Value → Shared → Prop} {s : Shared} {e : Expr} {Q : Value → Shared → Prop} (h : wpAny G.M A (eval e env) Q Er s) : wpAny G.M A (evalPart (some e) env) Q Er s := wpAny_evalPart_some h
theorem evalPart_n {env : PySem.Env} {A : Around} {Er : Value → Shared → Prop} {s : Shared} {Q : Value → Shared → Prop} (h : Q .none s) : wpAny G.M A (evalPart none env) Q Er s := wpAny_evalPart_none h
theorem snd_slTo {a b : E} {ea eb : Expr} {p pos : Pos} (Ha : SndE G C n sc a ea) (Hb : SndE G C n sc b eb) : SndE G C n sc (.slTo a b) (.Subscript ea (.Slice none (some eb) none p) pos) := fun A env me I mh s Qm Q Er hA hsc S R hw hQ => by
 refine Subscript_ (Ha A env me I mh s _ _ _ hA hsc S R hw fun va h1 xa I1 s1 hw1 e1 S1 r1 => ?_)
 refine wpAny_Slice (evalPart_n (evalPart_e (Hb A env me I1 h1 s1 _ _ _ hA hsc S1 (R.next S e1 S1) hw1 fun vb h2 xb I2 s2 hw2 e2 S2 r2 => evalPart_n ?_)))
 exact slTo_sound S2 ((R.next S e1 S1).next S1 e2 S2).size hw2 (r1.next S1 e2) r2 (fun _ _ => rfl) fun v mh' x I' s' hp e S' r => hQ _ _ _ _ _ hp ((e1.trans e2).trans e) S' r
theorem snd_slFrom {a b : E} {ea eb : Expr} {p pos : Pos} (Ha : SndE G C n sc a ea) (Hb : SndE G C n sc b eb) : SndE G C n sc (.slFrom a b) (.Subscript ea (.Slice (some eb) none none p) pos) := fun A env me I mh s Qm Q Er hA hsc S R hw hQ => by
 refine Subscript_ (Ha A env me I mh s _ _ _ hA hsc S R hw fun va h1 xa I1 s1 hw1 e1 S1 r1 => ?_)
 refine wpAny_Slice (evalPart_e (Hb A env me I1 h1 s1 _ _ _ hA hsc S1 (R.next S e1 S1) hw1 fun vb h2 xb I2 s2 hw2 e2 S2 r2 => evalPart_n (evalPart_n ?_)))
 exact slFrom_sound S2 ((R.next S e1 S1).next S1 e2 S2).size hw2 (r1.next S1 e2) r2 (fun _ _ => rfl) fun v mh' x I' s' hp e S' r => hQ _ _ _ _ _ hp ((e1.trans e2).trans e) S' r
end Mine
end
section
namespace Mine
open PySem PySem.W PyProof.Rows PySem.Calls
variable {G : Gd} {C : CS} {n : Nat} {sc : Scope}
section
variable {I : Inj} {mh : MH} {s : Shared} {A : Around} {Er : Value → Shared → Prop} {env : PySem.Env} {me : Env}
theorem name_bi {k : Nat} {x : Str} {pos : Pos} {v : Value} {Q : Value → Shared → Prop} (S : G.St I mh s) (R : EnvR G env me I k s.heap) (hb : biName x = true) (hv : bootBuiltins x = some v)
  (hx : env.kindOf x = some .globalImplicit) (h : Q v s) (hd : (x == ("__debug__" : Str)) = false) (hn : x ≠ "__name__") : wpAny G.M A (eval (.Name x pos) env) Q Er s :=
 Name_function_global R.kind hx (loadGlobal_builtin (env := env) (by rw [R.glob]; exact G.T.g.keeps S.base) (G.noGlob x hb) (by rw [R.blt]; exact G.T.b.keeps S.base) ((G.T.builtins x hn).trans hv) h) hd
theorem evalArgs_of {f : Value} {args : List (Bool × Sem Value)} {Q : Args → Shared → Prop} (hp : args.any (·.1) = false) (h : wpAny G.M A (spliced args) (fun vs s' => Q ⟨vs, []⟩ s') Er s) :
  wpAny G.M A (evalArgs f true args []) Q Er s := by
 cases args with
 | nil =>
  intro Γ p hΓ
  have q := PyProof.Rows.evalArgs_nil3 (M := G.M) (A := A) (E := Er) (s := s) (f := f) (Q := fun a s' => a = ⟨[], []⟩ ∧ s' = s) ⟨rfl, rfl⟩ Γ p hΓ
  exact Sem.wp_mono _ _ _ (fun a p' s' e => by obtain ⟨rfl, rfl⟩ := e; exact h Γ p hΓ) (fun _ _ _ e => e) _ _ q
 | cons a r =>
  obtain ⟨b, t⟩ := a
  have : b = false := by simpa using (List.any_eq_false.mp hp (b, t) (.head _))
  subst this
  exact Calls.evalArgs_plain h
theorem back_any {pos : Pos} {l : List (Bool × Sem Value)} : (backTo pos l).any (·.1) = l.any (·.1) := by
 unfold backTo
 rw [List.any_map]; rfl
theorem call_named {es : Es} {exs : List Expr} {x : Str} {p pos : Pos} {f : Value} {Qm : List V → MH → Prop} {Q : Value → Shared → Prop} (Hs : SndEs G C n sc es exs)
  (hA : AOk n A) (hsc : env.scope = sc) (S : G.St I mh s) (R : EnvR G env me I mh.nxt s.heap) (hw : wEs C es me mh Qm)
  (hb : biName x = true) (hf : bootBuiltins x = some f) (hk : (∃ id, f = .builtin id) ∨ ∃ T, f = .type T) (hx : sc.names.lookup x = some .globalImplicit) (hst : ∀ env, (starEach exs env).any (·.1) = false) (hd : (x == ("__debug__" : Str)) = false) (hn : x ≠ "__name__")
  (hQ : ∀ vs mh' xs I' s', Qm vs mh' → Ext NoX I mh.nxt s.heap I' mh'.nxt s'.heap → G.St I' mh' s' → EnvR G env me I' mh'.nxt s'.heap → VRs I' mh'.nxt s'.heap vs xs → wpAny G.M A (call f xs) Q Er s') :
  wpAny G.M A (eval (.Call (.Name x p) exs [] pos) env) Q Er s := by
 have hx' : env.kindOf x = some .globalImplicit := by subst hsc; exact hx
 have k : wpAny G.M A (evalArgs f true (backTo pos (starEach exs env)) []) (fun a s₁ => wpAny G.M A (call f ([] ++ a.pos) a.kw) Q Er s₁) Er s :=
  evalArgs_of (by rw [back_any]; exact hst env) (Hs pos A env me I mh s _ _ _ hA hsc S R hw fun vs mh' xs I' s' q e S' r => hQ vs mh' xs I' s' q e S' (R.next S e S') r)
 refine wpAny_Call_ofName (name_bi S R hb hf hx' ?_ hd hn)
 rcases hk with ⟨id, rfl⟩ | ⟨T, rfl⟩
 ·exact Calls.callWith_builtin (by rw [back_any]; exact hst env) k
 ·exact PySem.callWith_type (by rw [back_any]; exact hst env) k
theorem call_meth {o : E} {es : Es} {eo : Expr} {exs : List Expr} {name : Str} {apos pos : Pos} {T id : String} {Ko : V → MH → Prop} {Qm : List V → MH → Prop} {Q : Value → Shared → Prop} (Ho : SndE G C n sc o eo) (Hs : SndEs G C n sc es exs)
  (hA : AOk n A) (hsc : env.scope = sc) (S : G.St I mh s) (R : EnvR G env me I mh.nxt s.heap) (hw : wE C o me mh Ko)
  (pa : PlainAttrs T) (slot : Slot T name id) (hty : typeOf (.builtin id) = pure (.type "method_descriptor"))
  (hbase : ∀ env, attributeBase eo name env (eval eo env) = eval eo env) (hline : (apos.endLine == pos.line) = true) (hst : ∀ env, (starEach exs env).any (·.1) = false) (hlen : exs.length < 29)
  (hK : ∀ vo mh' xo I' s', Ko vo mh' → G.St I' mh' s' → VR I' mh'.nxt s'.heap vo xo → ∃ ob l, xo = .ref l ∧ s'.heap.get? l = some ob ∧ ob.cls = .type T ∧ ob.dict = none)
  (hQ : ∀ vo mh' xo I' s', Ko vo mh' → Ext NoX I mh.nxt s.heap I' mh'.nxt s'.heap → G.St I' mh' s' → EnvR G env me I' mh'.nxt s'.heap → VR I' mh'.nxt s'.heap vo xo →
   wpAny G.M A (callWith pos (.builtin id) [xo] (backTo pos (starEach exs env)) []) Q Er s') :
  wpAny G.M A (eval (.Call (.Attribute eo name apos) exs [] pos) env) Q Er s := by
 have hall : ∀ {l : List (Bool × Sem Value)}, l.any (·.1) = false → l.all (fun x => !x.1) = true := fun {l} h => by
  rw [List.all_eq_true]; intro x hx
  have := List.any_eq_false.mp h x hx
  simpa using this
 refine wpAny_Call_method (hbase env) ?_ hline pa slot hty (Ho A env me I mh s _ _ _ hA hsc S R hw fun vo h1 xo I1 s1 hw1 e1 S1 r1 => ?_)
 ·rw [hall (by rw [back_any]; exact hst env)]
  show ((true && true) && decide (exs.length + 0 + 0 < 30)) = true
  simp; lia
 ·obtain ⟨ob, l, rfl, h2, h3, h4⟩ := hK vo h1 xo I1 s1 hw1 S1 r1
  exact ⟨⟨ob, h2, h3⟩, fun a e => by cases e; exact ⟨ob, h2, h4⟩, hQ vo h1 _ I1 s1 hw1 e1 S1 (R.next S e1 S1) r1⟩
end
end Mine
end
section
namespace Mine
open PySem PySem.W PyProof.Rows PySem.Calls
variable {G : Gd} {C : CS} {n : Nat} {sc : Scope}
theorem boot_len' : bootBuiltins "len" = some (.builtin "len") := by decide +kernel
theorem boot_list' : bootBuiltins "list" = some (.type "list") := by decide +kernel
theorem boot_tuple' : bootBuiltins "tuple" = some (.type "tuple") := by decide +kernel
theorem boot_int' : bootBuiltins "int" = some (.type "int") := by decide +kernel
theorem boot_abs' : bootBuiltins "abs" = some (.builtin "abs") := by decide +kernel
theorem boot_sum' : bootBuiltins "sum" = some (.builtin "sum") := by decide +kernel
theorem boot_dict' : bootBuiltins "dict" = some (.type "dict") := by decide +kernel
theorem boot_sorted' : bootBuiltins "sorted" = some (.builtin "sorted") := by decide +kernel
theorem boot_set' : bootBuiltins "set" = some (.type "set") := by decide +kernel
theorem boot_range' : bootBuiltins "range" = some (.type "range") := by decide +kernel
theorem boot_max' : bootBuiltins "max" = some (.builtin "max") := by decide +kernel
theorem boot_enumerate' : bootBuiltins "enumerate" = some (.type "enumerate") := by decide +kernel
noncomputable def one (P : V → MH → Prop) (vs : List V) (h : MH) : Prop := match vs with
 | [v] => P v h
 | _ => False
noncomputable def two (P : V → V → MH → Prop) (vs : List V) (h : MH) : Prop := match vs with
 | [v, u] => P v u h
 | _ => False
section
variable {I : Inj} {mh : MH} {s : Shared} {A : Around} {Er : Value → Shared → Prop} {Q : Value → Shared → Prop}
noncomputable def Back (G : Gd) (I : Inj) (mh : MH) (s : Shared) (P : V → MH → Prop) (Q : Value → Shared → Prop) : Prop :=
 ∀ v mh' x I' s', P v mh' → Ext NoX I mh.nxt s.heap I' mh'.nxt s'.heap → G.St I' mh' s' → VR I' mh'.nxt s'.heap v x → Q x s'
theorem items_at (S : G.St I mh s) {v : V} {x : Value} {vs : List V} (e : items mh v = some vs) (r : VR I mh.nxt s.heap v x) :
  ∃ (a : Addr) (xs : List Value) (k : Nat), x = .ref a ∧ (IsL s.heap a xs.toArray k ∨ IsT s.heap a xs.toArray k) ∧ F2 (VR I mh.nxt s.heap) vs xs := by
 cases v with
 | old a => simp [items] at e
 | tup ws =>
  simp only [items, Option.some.injEq] at e
  subst e
  obtain ⟨a, xs, k, rfl, ht, f⟩ := r
  exact ⟨a, xs, k, rfl, .inr ht, F2.of_map_left (f := V.w) (R := VR I mh.nxt s.heap) f⟩
 | w y =>
  cases y <;> simp only [items, reduceCtorEq] at e
  obtain ⟨l1, rfl⟩ := r
  split at e
  ·rename_i vs' q
   cases e
   obtain ⟨_, xs, k, hl, f⟩ := S.list l1 q
   exact ⟨_, xs, k, rfl, .inl hl, f⟩
  ·cases e
theorem len_sound {v : V} {x : Value} {P : V → MH → Prop} (S : G.St I mh s) (hw : b1op .len v mh P) (r : VR I mh.nxt s.heap v x) (hQ : Back G I mh s P Q) : wpAny G.M A (call (.builtin "len") [x]) Q Er s := by
 obtain ⟨vs, ⟨e, h1⟩, hp⟩ := hw
 obtain ⟨a, xs, k, rfl, hl, f⟩ := items_at S e r
 have hlen := f.length
 unfold room at h1
 have hz : (xs.toArray.size : Int) = (vs.length : Int) := by simp [hlen]
 have hq : ∀ t tk, Q (.int (xs.toArray.size : Int) t) { s with toks := tk } := fun t tk => by
  rw [hz]; exact hQ _ _ _ _ _ hp .refl (S.toks _) ⟨_, rfl⟩
 rcases hl with hl | ht
 ·exact PySem.Calls.call_len_list hl.isList (by rw [hz]; lia) (hq _ _)
 ·exact PySem.P.len_tuple ht (by rw [hz]; lia) (hq _ _)
theorem list_sound {v : V} {x : Value} {P : V → MH → Prop} (S : G.St I mh s) (z : G.h₀.objs.size ≤ s.heap.objs.size) (hw : b1op .list v mh P) (r : VR I mh.nxt s.heap v x) (hQ : Back G I mh s P Q) :
  wpAny G.M A (call (.type "list") [x]) Q Er s := by
 obtain ⟨vs, ⟨e, h1⟩, hp⟩ := hw
 obtain ⟨a, xs, k, rfl, hl, f⟩ := items_at S e r
 have hlen := f.length
 have hz : xs.toArray.size ≤ sizeLine := by simp only [List.size_toArray]; exact room_line (by lia)
 have fin : ∀ h' c', (∀ b o', s.heap.get? b = some o' → h'.get? b = some o') → h'.get? s.heap.objs.size = some { cls := .type "list", dict := none, data := .seq xs.toArray c', slots := #[] } → Q (.ref s.heap.objs.size) { s with heap := h' } := fun h' c' hk hn => by
  obtain ⟨S', e'⟩ := S.alloc (s' := { s with heap := h' }) (o := .list vs) hk (get_size _ _ (Nat.le_refl _)) (get_size _ _ (Nat.le_refl _)) z z rfl rfl
   ⟨by rw [put_at.1, put_at.2], xs, c', by rw [put_at.1]; exact hn, f.imp fun _ _ r => r.stay (Nat.le_succ _) (fun l hl => (put_lt hl).1) fun b o _ _ e _ _ => hk b o e⟩
  exact hQ _ _ _ _ _ hp e' S' new_loc
 rcases hl with hl | ht
 ·exact call_list_seq a (.inl rfl) hl rfl rfl fin hz
 ·exact call_list_seq a (.inr rfl) ht rfl rfl fin hz
theorem tuple_sound {v : V} {x : Value} {P : V → MH → Prop} (S : G.St I mh s) (hw : b1op .tuple v mh P) (r : VR I mh.nxt s.heap v x) (hQ : Back G I mh s P Q) :
  wpAny G.M A (call (.type "tuple") [x]) Q Er s := by
 obtain ⟨l, vs, ws, ⟨rfl, e, rfl, h1⟩, hp⟩ := hw
 obtain ⟨l1, rfl⟩ := r
 obtain ⟨_, xs, k, hl, f⟩ := S.list l1 e
 have f' := F2.map_left f
 have hlen := f'.length
 rw [List.length_map] at h1
 refine call_tuple_list hl.isList (fun h' hk => ?_) (by simp only [List.size_toArray]; exact room_line (by lia))
 have hk' : ∀ b o, s.heap.get? b = some o → (h'.push { cls := .type "tuple", data := .seq xs.toArray }).get? b = some o := fun b o e => Heap.get?_push_of_some _ (hk b o e)
 exact hQ _ mh _ I _ hp (Ext.ofKeep hk') (S.keep hk' rfl rfl) ⟨_, xs, 0, rfl, Heap.get?_push_size _ rfl, f'⟩
theorem int_sound {v : V} {x : Value} {P : V → MH → Prop} (S : G.St I mh s) (hw : b1op .int v mh P) (r : VR I mh.nxt s.heap v x) (hQ : Back G I mh s P Q) :
  wpAny G.M A (call (.type "int") [x]) Q Er s := by
 rcases hw with ⟨i, rfl, hp⟩ | ⟨b, rfl, hp⟩
 ·obtain ⟨t, rfl⟩ := r
  exact PySem.call_int_int (hQ _ mh _ I _ hp .refl S ⟨_, rfl⟩)
 ·cases r
  exact PySem.call_int_bool (hQ _ mh _ I _ hp .refl (S.toks _) ⟨_, rfl⟩)
theorem abs_sound {v : V} {x : Value} {P : V → MH → Prop} (S : G.St I mh s) (hw : b1op .abs v mh P) (r : VR I mh.nxt s.heap v x) (hQ : Back G I mh s P Q) :
  wpAny G.M A (call (.builtin "abs") [x]) Q Er s := by
 obtain ⟨i, rfl, hp⟩ := hw
 obtain ⟨t, rfl⟩ := r
 refine PyProof.Rows.call_abs_int fun u tk => ?_
 rw [show (if i < 0 then -i else i) = ((i.natAbs : Nat) : Int) by split <;> lia]
 exact hQ _ mh _ I _ hp .refl (S.toks _) ⟨_, rfl⟩
theorem sum_sound {v : V} {x : Value} {P : V → MH → Prop} (hA : AOk n A) (S : G.St I mh s) (hw : b1op .sum v mh P) (r : VR I mh.nxt s.heap v x) (hQ : Back G I mh s P Q) :
  wpAny G.M A (call (.builtin "sum") [x]) Q Er s := by
 obtain ⟨l, vs, ns, ⟨rfl, e, rfl, h1⟩, hp⟩ := hw
 obtain ⟨l1, rfl⟩ := r
 obtain ⟨_, xs, k, hl, f⟩ := S.list l1 e
 have hi := ints_of f
 obtain ⟨ys, hy⟩ := hi.allInts.items
 have hn : ns = numsOf xs := hi.numsOf.symm
 have hl' := hl.isList
 rw [hy] at hl'
 refine sum_intListG hA.1 hl' fun h' tk t' hk => ?_
 have : preSum (numAt ys) ys.size = ns.sum := by
  rw [hn, show xs = xs.toArray.toList from rfl, hy, nums_intItems, preSum_eq, List.take_of_length_le (by simp)]
 rw [this]
 exact hQ _ mh _ I _ hp (Ext.ofKeep hk) (S.keep hk rfl rfl) ⟨_, rfl⟩
theorem dictCopy_sound {l : Nat} {es : List (Int × Int)} {x : Value} (S : G.St I mh s) (z : G.h₀.objs.size ≤ s.heap.objs.size) (e : mh.get l = some (.dict es)) (h1 : es.length ≤ 1000) (r : VR I mh.nxt s.heap (.loc l) x)
  (hQ : ∀ x I' s', Ext NoX I mh.nxt s.heap I' (mh.new (.dict es)).nxt s'.heap → G.St I' (mh.new (.dict es)) s' → VR I' (mh.new (.dict es)).nxt s'.heap (.loc mh.nxt) x → Q x s') :
  wpAny G.M A (call (.type "dict") [x]) Q Er s := by
 obtain ⟨l1, rfl⟩ := r
 obtain ⟨_, kvs, hd, f⟩ := S.dict l1 e
 have hlen := f.length
 refine kt_call_dict (notSys S l1) hd (by rw [sizeLine_eq]; lia) fun h' hd' hs' => ?_
 have hk : ∀ b o, s.heap.get? b = some o → h'.get? b = some o := fun b o q => hs'.extBut b o (Nat.ne_of_lt (Heap.lt_size q)) (Heap.get?_push_of_some _ q)
 obtain ⟨S', e'⟩ := S.alloc (s' := { s with heap := h' }) (o := .dict es) hk (get_size _ _ (Nat.le_refl _)) (get_size _ _ (Nat.le_refl _)) z z rfl rfl ⟨by rw [put_at.1, put_at.2], kvs, by rw [put_at.1]; exact hd', f⟩
 exact hQ _ _ _ e' S' new_loc
theorem max_sound {i j : Int} {x y : Value} (hA : AOk n A) (S : G.St I mh s) (rx : VR I mh.nxt s.heap (.int i) x) (ry : VR I mh.nxt s.heap (.int j) y) (hQ : Back G I mh s (fun v h => v = .int (max i j) ∧ h = mh) Q) :
  wpAny G.M A (call (.builtin "max") [x, y]) Q Er s := by
 obtain ⟨t, rfl⟩ := rx; obtain ⟨u, rfl⟩ := ry
 refine max_two_ints hA.1 fun h' tk hk => ?_
 split
 ·exact hQ (.int j) mh _ I _ ⟨by rw [Int.max_def, if_pos (by lia)], rfl⟩ (Ext.ofKeep hk) (S.keep hk rfl rfl) ⟨_, rfl⟩
 ·have : max i j = i := by rw [Int.max_def]; split <;> lia
  exact hQ (.int i) mh _ I _ ⟨by rw [this], rfl⟩ (Ext.ofKeep hk) (S.keep hk rfl rfl) ⟨_, rfl⟩
end
section
variable {a b : E} {ea eb : Expr} {p pos : Pos}
theorem snd_len (Ha : SndE G C n sc a ea) (hx : sc.names.lookup ("len" : Str) = some .globalImplicit := by rfl) (hst : ∀ env, starEach [ea] env = [(false, eval ea env)] := by intro _; rfl) :
  SndE G C n sc (.b1 .len a) (.Call (.Name "len" p) [ea] [] pos) := fun A env me I mh s Qm Q Er hA hsc S R hw hQ =>
 call_named (Qm := one fun v h => b1op .len v h Qm) (snd_cons Ha snd_nil hst) hA hsc S R hw (by decide +kernel) boot_len' (.inl ⟨_, rfl⟩) hx (fun env => by rw [hst]; rfl) (by decide +kernel) (by decide +kernel)
  fun vs mh' xs I' s' q e S' R' r => by
   cases r with
   | nil => exact q.elim
   | cons r1 r2 => cases r2 with
    | nil => exact len_sound S' q r1 fun v mh'' x I'' s'' hp e' S'' r => hQ _ _ _ _ _ hp (e.trans e') S'' r
    | cons _ _ => exact q.elim
theorem snd_listOf (Ha : SndE G C n sc a ea) (hx : sc.names.lookup ("list" : Str) = some .globalImplicit := by rfl) (hst : ∀ env, starEach [ea] env = [(false, eval ea env)] := by intro _; rfl) :
  SndE G C n sc (.b1 .list a) (.Call (.Name "list" p) [ea] [] pos) := fun A env me I mh s Qm Q Er hA hsc S R hw hQ =>
 call_named (Qm := one fun v h => b1op .list v h Qm) (snd_cons Ha snd_nil hst) hA hsc S R hw (by decide +kernel) boot_list' (.inr ⟨_, rfl⟩) hx (fun env => by rw [hst]; rfl) (by decide +kernel) (by decide +kernel)
  fun vs mh' xs I' s' q e S' R' r => by
   cases r with
   | nil => exact q.elim
   | cons r1 r2 => cases r2 with
    | nil => exact list_sound S' R'.size q r1 fun v mh'' x I'' s'' hp e' S'' r => hQ _ _ _ _ _ hp (e.trans e') S'' r
    | cons _ _ => exact q.elim
theorem snd_tupleOf (Ha : SndE G C n sc a ea) (hx : sc.names.lookup ("tuple" : Str) = some .globalImplicit := by rfl) (hst : ∀ env, starEach [ea] env = [(false, eval ea env)] := by intro _; rfl) :
  SndE G C n sc (.b1 .tuple a) (.Call (.Name "tuple" p) [ea] [] pos) := fun A env me I mh s Qm Q Er hA hsc S R hw hQ =>
 call_named (Qm := one fun v h => b1op .tuple v h Qm) (snd_cons Ha snd_nil hst) hA hsc S R hw (by decide +kernel) boot_tuple' (.inr ⟨_, rfl⟩) hx (fun env => by rw [hst]; rfl) (by decide +kernel) (by decide +kernel)
  fun vs mh' xs I' s' q e S' R' r => by
   cases r with
   | nil => exact q.elim
   | cons r1 r2 => cases r2 with
    | nil => exact tuple_sound S' q r1 fun v mh'' x I'' s'' hp e' S'' r => hQ _ _ _ _ _ hp (e.trans e') S'' r
    | cons _ _ => exact q.elim
theorem snd_intOf (Ha : SndE G C n sc a ea) (hx : sc.names.lookup ("int" : Str) = some .globalImplicit := by rfl) (hst : ∀ env, starEach [ea] env = [(false, eval ea env)] := by intro _; rfl) :
  SndE G C n sc (.b1 .int a) (.Call (.Name "int" p) [ea] [] pos) := fun A env me I mh s Qm Q Er hA hsc S R hw hQ =>
 call_named (Qm := one fun v h => b1op .int v h Qm) (snd_cons Ha snd_nil hst) hA hsc S R hw (by decide +kernel) boot_int' (.inr ⟨_, rfl⟩) hx (fun env => by rw [hst]; rfl) (by decide +kernel) (by decide +kernel)
  fun vs mh' xs I' s' q e S' R' r => by
   cases r with
   | nil => exact q.elim
   | cons r1 r2 => cases r2 with
    | nil => exact int_sound S' q r1 fun v mh'' x I'' s'' hp e' S'' r => hQ _ _ _ _ _ hp (e.trans e') S'' r
    | cons _ _ => exact q.elim
theorem snd_absOf (Ha : SndE G C n sc a ea) (hx : sc.names.lookup ("abs" : Str) = some .globalImplicit := by rfl) (hst : ∀ env, starEach [ea] env = [(false, eval ea env)] := by intro _; rfl) :
  SndE G C n sc (.b1 .abs a) (.Call (.Name "abs" p) [ea] [] pos) := fun A env me I mh s Qm Q Er hA hsc S R hw hQ =>
 call_named (Qm := one fun v h => b1op .abs v h Qm) (snd_cons Ha snd_nil hst) hA hsc S R hw (by decide +kernel) boot_abs' (.inl ⟨_, rfl⟩) hx (fun env => by rw [hst]; rfl) (by decide +kernel) (by decide +kernel)
  fun vs mh' xs I' s' q e S' R' r => by
   cases r with
   | nil => exact q.elim
   | cons r1 r2 => cases r2 with
    | nil => exact abs_sound S' q r1 fun v mh'' x I'' s'' hp e' S'' r => hQ _ _ _ _ _ hp (e.trans e') S'' r
    | cons _ _ => exact q.elim
theorem snd_sumOf (Ha : SndE G C n sc a ea) (hx : sc.names.lookup ("sum" : Str) = some .globalImplicit := by rfl) (hst : ∀ env, starEach [ea] env = [(false, eval ea env)] := by intro _; rfl) :
  SndE G C n sc (.b1 .sum a) (.Call (.Name "sum" p) [ea] [] pos) := fun A env me I mh s Qm Q Er hA hsc S R hw hQ =>
 call_named (Qm := one fun v h => b1op .sum v h Qm) (snd_cons Ha snd_nil hst) hA hsc S R hw (by decide +kernel) boot_sum' (.inl ⟨_, rfl⟩) hx (fun env => by rw [hst]; rfl) (by decide +kernel) (by decide +kernel)
  fun vs mh' xs I' s' q e S' R' r => by
   cases r with
   | nil => exact q.elim
   | cons r1 r2 => cases r2 with
    | nil => exact sum_sound hA S' q r1 fun v mh'' x I'' s'' hp e' S'' r => hQ _ _ _ _ _ hp (e.trans e') S'' r
    | cons _ _ => exact q.elim
theorem snd_max (Ha : SndE G C n sc a ea) (Hb : SndE G C n sc b eb) (hx : sc.names.lookup ("max" : Str) = some .globalImplicit := by rfl) (hst : ∀ env, starEach [ea, eb] env = [(false, eval ea env), (false, eval eb env)] := by intro _; rfl) (hst2 : ∀ env, starEach [eb] env = [(false, eval eb env)] := by intro _; rfl) :
  SndE G C n sc (.max2 a b) (.Call (.Name "max" p) [ea, eb] [] pos) := fun A env me I mh s Qm Q Er hA hsc S R hw hQ =>
 call_named (Qm := two fun va vb h2 => ∃ x y, (va = .int x ∧ vb = .int y) ∧ Qm (.int (max x y)) h2) (snd_cons Ha (snd_cons Hb snd_nil hst2) (fun env => by rw [hst, hst2])) hA hsc S R hw (by decide +kernel) boot_max' (.inl ⟨_, rfl⟩) hx (fun env => by rw [hst]; rfl) (by decide +kernel) (by decide +kernel)
  fun vs mh' xs I' s' q e S' R' r => by
   cases r with
   | nil => exact q.elim
   | cons r1 r2 => cases r2 with
    | nil => exact q.elim
    | cons r2 r3 => cases r3 with
     | nil =>
      obtain ⟨x, y, ⟨rfl, rfl⟩, hp⟩ := q
      exact max_sound hA S' r1 r2 fun v mh'' x I'' s'' ⟨h1, h2⟩ e' S'' r => hQ _ _ _ _ _ (by rw [h1, h2]; exact hp) (e.trans e') S'' r
     | cons _ _ => exact q.elim
end
end Mine
end
section
namespace Mine
open PySem PySem.W PyProof.Rows PySem.Calls
variable {G : Gd} {C : CS} {n : Nat} {sc : Scope}
section
variable {I : Inj} {mh : MH} {s : Shared} {A : Around} {Er : Value → Shared → Prop}
theorem St.setList (S : G.St I mh s) {l : Nat} {vs ws : List V} {xs ys : List Value} {k : Nat} {f : Array Value → Array Value} {t : Tok} (hl : l < mh.nxt) (e : mh.get l = some (.list vs)) (x : IsL s.heap (I.a l) xs.toArray k)
  (hf : f xs.toArray = ys.toArray) (hv : F2 (VR I mh.nxt s.heap) ws ys) :
  G.St I (mh.set l (.list ws)) { s with heap := s.heap.update (I.a l) (Obj.mapSeq f), toks := t } ∧ Ext NoX I mh.nxt s.heap I (mh.set l (.list ws)).nxt (s.heap.update (I.a l) (Obj.mapSeq f)) := by
 obtain ⟨hd, _⟩ := S.list hl e
 refine S.turn (s' := { s with heap := s.heap.update (I.a l) (Obj.mapSeq f), toks := t }) hl (fun b h1 _ => Heap.get?_update_ne _ _ _ _ h1) rfl rfl fun kt => ?_
 have u := x.update f
 rw [hf] at u
 exact ⟨hd, ys, _, u, hv.imp fun _ _ r => r.stay (Nat.le_refl _) (fun _ _ => rfl) kt⟩
theorem St.setDict (S : G.St I mh s) {l : Nat} {es fs : List (Int × Int)} {kvs : List (Int × Value)} {h' : Heap} {t : Tok} (hl : l < mh.nxt) (e : mh.get l = some (.dict es)) (hs : Heap.SameBut (I.a l) s.heap h')
  (hd : h'.DictOf (intKind G.prog G.w) (I.a l) kvs) (hv : F2 (fun (e : Int × Int) (kv : Int × Value) => e.1 = kv.1 ∧ ∃ t, kv.2 = .int e.2 t) fs kvs) :
  G.St I (mh.set l (.dict fs)) { s with heap := h', toks := t } ∧ Ext NoX I mh.nxt s.heap I (mh.set l (.dict fs)).nxt h' := by
 obtain ⟨hdd, _⟩ := S.dict hl e
 exact S.turn (s' := { s with heap := h', toks := t }) hl (fun b h1 _ => hs.2 b h1) rfl rfl fun kt => ⟨hdd, kvs, hd, hv⟩
theorem F2.stored {es : List (Int × Int)} {kvs : List (Int × Value)} (h : F2 (fun (e : Int × Int) (kv : Int × Value) => e.1 = kv.1 ∧ ∃ t, kv.2 = .int e.2 t) es kvs) (k v : Int) (t : Tok) :
  F2 (fun (e : Int × Int) (kv : Int × Value) => e.1 = kv.1 ∧ ∃ t, kv.2 = .int e.2 t) (dput es k v) (PySem.stored kvs k (.int v t)) := by
 have ha : ∀ {es : List (Int × Int)} {kvs : List (Int × Value)}, F2 (fun (e : Int × Int) (kv : Int × Value) => e.1 = kv.1 ∧ ∃ t, kv.2 = .int e.2 t) es kvs →
   (es.any fun e => decide (e.1 = k)) = (kvs.any fun kv => decide (kv.1 = k)) := by
  intro es kvs h
  induction h with
  | nil => rfl
  | cons a _ ih => rw [List.any_cons, List.any_cons, ih, a.1]
 have hm : ∀ {es : List (Int × Int)} {kvs : List (Int × Value)}, F2 (fun (e : Int × Int) (kv : Int × Value) => e.1 = kv.1 ∧ ∃ t, kv.2 = .int e.2 t) es kvs →
   F2 (fun (e : Int × Int) (kv : Int × Value) => e.1 = kv.1 ∧ ∃ t, kv.2 = .int e.2 t) (es.map fun e => if e.1 = k then (e.1, v) else e) (kvs.map fun kv => if kv.1 = k then (kv.1, .int v t) else kv) := by
  intro es kvs h
  induction h with
  | nil => exact .nil
  | cons a _ ih =>
   refine .cons ?_ ih
   rename_i x y _ _ _
   obtain ⟨x1, x2⟩ := x
   obtain ⟨y1, y2⟩ := y
   obtain ⟨rfl, a2⟩ := a
   dsimp only
   split
   ·exact ⟨rfl, t, rfl⟩
   ·exact ⟨rfl, a2⟩
 unfold dput PySem.stored
 rw [ha h]
 split
 ·exact hm h
 ·exact h.append (.cons ⟨rfl, t, rfl⟩ .nil)
theorem setItem_exact {l : Addr} {xs : List Value} {k : Nat} {i : Int} {u : Tok} {xv : Value} {Q : Unit → Shared → Prop} (hl : IsL s.heap l xs.toArray k) (h0 : 0 ≤ i) (hfit : i < 2 ^ 63) (hn : i < xs.length)
  (hQ : Q () { s with heap := s.heap.update l (Obj.mapSeq (·.setIfInBounds i.toNat xv)) }) : wpAny G.M A (setItem (.ref l) (.int i u) xv) Q Er s := by
 have hL := hl.isList
 unfold setItem
 try with_reducible refine wpAny_holding ?_
 first | refine wpAny_bind (wpAny_pure ?_) | skip
 refine wpAny_bind (wpAny_sequenceKey hL.typeIs (by decide) ?_)
 refine wpAny_bind (wpAny_callSpecial?_slot (name := Str.ofString "__setitem__") hL.typeIs slot_list_setitem
  (wpAny_call_entry slot_list_setitem hL.typeIs entry_list_setitem ?_ (args_list_setitem _ _ _)))
 show wpAny _ _ (Builtin.List.listSubscript? (.int i u) >>= _) _ _ s
 refine wpAny_bind (wpAny_listSubscript_int (fitsIndex_of h0 hfit) ?_)
 clear hfit
 obtain ⟨j, rfl⟩ := Int.eq_ofNat_of_zero_le h0
 have hj : j < xs.length := by lia
 have hx' : xs.toArray[j]? = some xs[j] := by simp [hj]
 show wpAny _ _ ((seqItemAt l j >>= fun r => pure (r.map (j, ·))) >>= _) _ _ s
 refine wpAny_bind (wpAny_bind (wpAny_seqItemAt hl rfl (wpAny_pure ?_)))
 rw [hx']
 show wpAny _ _ (setSeqItemAt l j xv >>= _) _ _ s
 refine wpAny_bind (wpAny_setSeqItemAt hl rfl ?_)
 first
  | exact wpAny_bind (wpAny_pure (wpAny_pure ⟨.none, rfl, wpAny_pure hQ⟩))
  | exact wpAny_pure ⟨.none, rfl, wpAny_pure hQ⟩
theorem setSub_sound {va vi vv : V} {xa xi xv : Value} {P : MH → Prop} {Q : Unit → Shared → Prop} (S : G.St I mh s) (hw : setSubop va vi vv mh P) (ra : VR I mh.nxt s.heap va xa) (ri : VR I mh.nxt s.heap vi xi) (rv : VR I mh.nxt s.heap vv xv)
  (hQ : ∀ mh' s', P mh' → Ext NoX I mh.nxt s.heap I mh'.nxt s'.heap → G.St I mh' s' → Q () s') : wpAny G.M A (setItem xa xi xv) Q Er s := by
 rcases hw with ⟨l, vs, i, ⟨rfl, rfl, e, h0, h1, h2⟩, hp⟩ | ⟨l, es, i, j, ⟨rfl, rfl, rfl, e, h1⟩, hp⟩
 ·obtain ⟨l1, rfl⟩ := ra
  obtain ⟨u, rfl⟩ := ri
  obtain ⟨_, xs, k, hl, f⟩ := S.list l1 e
  have hlen := f.length
  have hL := hl.isList
  refine setItem_exact hl h0 (small63 h1).2 (by lia) ?_
  have N := S.setList (t := s.toks) (f := (·.setIfInBounds i.toNat xv)) (ys := xs.set i.toNat xv) l1 e hl (by simp) (f.set i.toNat rv)
  exact hQ _ _ hp N.2 N.1
 ·obtain ⟨l1, rfl⟩ := ra
  obtain ⟨u, rfl⟩ := ri
  obtain ⟨u', rfl⟩ := rv
  obtain ⟨_, kvs, hd, f⟩ := S.dict l1 e
  have hlen := f.length
  refine wpAny_setItem_pairs (knd := intKind G.prog G.w) (k := i) (intKind_is _ _ _ _) hd (fun h' hd' hs' => ?_) (by rw [sizeLine_eq]; lia)
  have N := S.setDict (t := s.toks + 1) l1 e hs' hd' (f.stored i j u')
  exact hQ _ _ hp N.2 N.1
inductive InsR (G : Gd) (I : Inj) (n : Nat) (h : Heap) (l : Nat) (c : Cl) (fs : Fd → Option V) : Prop
 | mk (hd : I.d l ≠ I.a l) (ho : h.get? (I.a l) = some (instObj (G.cls c) (I.d l))) (es : List DictEntry) (k : Nat) (hD : h.get? (I.d l) = some (dictOf es k)) (hF : FieldsR I n h fs es)
theorem St.inst (S : G.St I mh s) {l : Nat} {c : Cl} {fs : Fd → Option V} (hl : l < mh.nxt) (e : mh.get l = some (.inst c fs)) : InsR G I mh.nxt s.heap l c fs := by
 obtain ⟨o, h1, h2⟩ := S.obj l hl
 rw [e] at h1; cases h1; obtain ⟨a, b, c, d, e, f⟩ := h2; exact ⟨a, b, c, d, e, f⟩
theorem handed {v : V} {x : Value} {h : Heap} {k : Nat} (r : VR I k h v x) : handedIn x = true := by
 cases v with
 | w y => cases y <;> first | (cases r; rfl) | (obtain ⟨_, rfl⟩ := r; rfl)
 | tup ws => obtain ⟨_, _, _, rfl, _⟩ := r; rfl
 | old a => cases r; rfl
theorem attr_sound {v : V} {x : Value} {f : Fd} {P : V → Prop} {Q : Value → Shared → Prop} {env : PySem.Env} {me : Env} (S : G.St I mh s) (R : EnvR G env me I mh.nxt s.heap) (hw : attrop v f mh P) (r : VR I mh.nxt s.heap v x)
  (hQ : ∀ v x tk, P v → VR I mh.nxt s.heap v x → Q x { s with toks := tk }) : wpAny G.M A (getAttr x f.txt true) Q Er s := by
 obtain ⟨l, c, fs, v', ⟨rfl, e, hf, hv⟩, hp⟩ := hw
 obtain ⟨l1, rfl⟩ := r
 obtain ⟨h1, h2, es, k, h3, h4⟩ := S.inst l1 e
 obtain ⟨m, F, _⟩ := R.fr
 have q := h4.fld f
 rw [hv] at q
 obtain ⟨x', q1, q2⟩ := q
 exact get_own F G.X ⟨h2, rfl, rfl, h3⟩ (G.clsGet c _) (G.clsDict c) (G.fld c f hf) rfl q1 (handed q2) (hQ _ _ _ hp q2)
end
end Mine
end
section
namespace Mine
open PySem PySem.W PyProof.Rows PySem.Calls
variable {G : Gd} {C : CS} {n : Nat} {sc : Scope}
theorem snd_attr {a : E} {ea : Expr} {f : Fd} {y : Str} {pos : Pos} (Ha : SndE G C n sc a ea) (hy : y = f.txt := by rfl)
  (he : ∀ env, eval (.Attribute ea y pos) env = (do
   let o ← eval ea env
   standAt pos.atName
   let r ← holding [o] (getAttr o y true)
   letTemporaryGo ea o r
   pure r) := by intro _; with_unfolding_all rfl) : SndE G C n sc (.attr a f) (.Attribute ea y pos) := fun A env me I mh s Qm Q Er hA hsc S R hw hQ => by
 subst hy
 exact Attribute_any_ (Ha A env me I mh s _ _ _ hA hsc S R hw fun v h1 x I1 s1 hw1 e1 S1 r1 =>
  attr_sound S1 (R.next S e1 S1) hw1 r1 fun v x tk hp r => hQ _ _ _ _ _ hp e1 (S1.toks _) r) (he env)
section
variable {I : Inj} {mh : MH} {s : Shared} {A : Around} {Er : Value → Shared → Prop} {Q : Value → Shared → Prop}
theorem list_hold {I : Inj} {mh : MH} {s : Shared} {vo : V} {xo : Value} (S : G.St I mh s) (h : ∃ l vs, vo = .loc l ∧ mh.get l = some (.list vs)) (r : VR I mh.nxt s.heap vo xo) : ∃ ob l, xo = .ref l ∧ s.heap.get? l = some ob ∧ ob.cls = .type "list" ∧ ob.dict = none := by
 obtain ⟨l, vs, rfl, e⟩ := h
 obtain ⟨l1, rfl⟩ := r
 obtain ⟨_, xs, k, hl, f⟩ := S.list l1 e
 exact ⟨_, _, rfl, hl, rfl, rfl⟩
theorem dict_hold {I : Inj} {mh : MH} {s : Shared} {vo : V} {xo : Value} (S : G.St I mh s) (h : ∃ l es, vo = .loc l ∧ mh.get l = some (.dict es)) (r : VR I mh.nxt s.heap vo xo) : ∃ ob l, xo = .ref l ∧ s.heap.get? l = some ob ∧ ob.cls = .type "dict" ∧ ob.dict = none := by
 obtain ⟨l, es, rfl, e⟩ := h
 obtain ⟨l1, rfl⟩ := r
 obtain ⟨_, kvs, ⟨o', es', ep, ho', hc', _⟩, f⟩ := S.dict l1 e
 exact ⟨_, _, rfl, ho', hc'.1, hc'.2.1⟩
end
section
variable {o a k d : E} {eo ea ek ed : Expr} {apos pos : Pos}
theorem snd_append (Ho : SndE G C n sc o eo) (Ha : SndE G C n sc a ea) (hbase : ∀ env, attributeBase eo "append" env (eval eo env) = eval eo env := by intro _; rfl) (hline : (apos.endLine == pos.line) = true := by rfl)
  (hst : ∀ env, starEach [ea] env = [(false, eval ea env)] := by intro _; rfl) : SndE G C n sc (.append o a) (.Call (.Attribute eo "append" apos) [ea] [] pos) := fun A env me I mh s Qm Q Er hA hsc S R hw hQ => by
 refine call_meth (es := .cons a .nil) Ho (snd_cons Ha snd_nil hst) hA hsc S R hw PySem.F.plainAttrs_list PySem.F.slot_list_append PySem.F.type_list_append hbase hline (fun env => by rw [hst]; rfl) (by simp) (Qm := fun _ _ => True)
  (fun vo mh' xo I' s' hk S' r => list_hold S' hk.1 r) fun vo mh' xo I' s' hk e S' R' r => ?_
 obtain ⟨⟨l, vs, rfl, hl⟩, hk⟩ := hk
 obtain ⟨l1, rfl⟩ := r
 rw [show backTo pos (starEach [ea] env) = [(false, eval ea env)] by rw [hst]; rfl]
 refine PySem.P.append_list (Ha A env me I' mh' s' _ _ _ hA hsc S' R' hk fun va h2 xa I2 s2 hk2 e2 S2 ra => ?_)
 obtain ⟨l', vs', ⟨q, hl', hr⟩, hp⟩ := hk2
 cases q
 have l2 : l < h2.nxt := Nat.lt_of_lt_of_le l1 e2.le
 obtain ⟨_, xs, k, hL, f⟩ := S2.list l2 hl'
 have ha := e2.agree l l1
 rw [← ha.1]
 have hlen := f.length
 refine ⟨_, k, by simp only [List.size_toArray]; exact room_line (by lia), hL, ?_⟩
 have N := S2.setList (t := s2.toks) (f := fun xs => xs.push xa) (ys := xs ++ [xa]) l2 hl' hL (by simp) (f.append (.cons ra .nil))
 exact hQ _ _ _ _ _ hp (e.trans (e2.trans N.2)) N.1 rfl
theorem snd_extend (Ho : SndE G C n sc o eo) (Ha : SndE G C n sc a ea) (hbase : ∀ env, attributeBase eo "extend" env (eval eo env) = eval eo env := by intro _; rfl) (hline : (apos.endLine == pos.line) = true := by rfl)
  (hst : ∀ env, starEach [ea] env = [(false, eval ea env)] := by intro _; rfl) : SndE G C n sc (.extend o a) (.Call (.Attribute eo "extend" apos) [ea] [] pos) := fun A env me I mh s Qm Q Er hA hsc S R hw hQ => by
 refine call_meth (es := .cons a .nil) Ho (snd_cons Ha snd_nil hst) hA hsc S R hw PySem.F.plainAttrs_list PySem.F.slot_list_extend PySem.F.type_list_extend hbase hline (fun env => by rw [hst]; rfl) (by simp) (Qm := fun _ _ => True)
  (fun vo mh' xo I' s' hk S' r => list_hold S' hk.1 r) fun vo mh' xo I' s' hk e S' R' r => ?_
 obtain ⟨⟨l, vs, rfl, hl⟩, hk⟩ := hk
 obtain ⟨l1, rfl⟩ := r
 rw [show backTo pos (starEach [ea] env) = [(false, eval ea env)] by rw [hst]; rfl]
 refine PySem.P.extend_list (Ha A env me I' mh' s' _ _ _ hA hsc S' R' hk fun va h2 xa I2 s2 hk2 e2 S2 ra => ?_)
 obtain ⟨l', j, vs', ws, ⟨q, rfl, hl', hj, hr⟩, hp⟩ := hk2
 cases q
 have l2 : l < h2.nxt := Nat.lt_of_lt_of_le l1 e2.le
 obtain ⟨j2, rfl⟩ := ra
 obtain ⟨_, xs, k, hL, f⟩ := S2.list l2 hl'
 obtain ⟨_, ys, k', hL', f'⟩ := S2.list j2 hj
 have ha := e2.agree l l1
 rw [← ha.1]
 have hlen := f.length
 have hlen' := f'.length
 have hz : sizeLine = 10 ^ 9 ∨ True := .inr trivial
 unfold room at hr
 refine ⟨I2.a j, xs.toArray, ys.toArray, k, k', by simp only [List.size_toArray]; exact room_line (by unfold room; lia), ?_, ?_, rfl, hL, hL', ?_⟩
 ·simp only [List.size_toArray]
  exact Nat.le_succ_of_le (room_line (by unfold room; lia))
 ·simp only [List.size_toArray]
  intro h
  simp only [Bool.and_eq_true] at h
  have h := h.2
  have : xs.length + ys.length ≤ 100000 := by lia
  simp [Builtin.List.listTooLong, sizeLine_eq] at h
  lia
 ·have N := S2.setList (t := s2.toks) (f := fun xs => xs ++ ys.toArray) (ys := xs ++ ys) l2 hl' hL (by simp) (f.append f')
  exact hQ _ _ _ _ _ hp (e.trans (e2.trans N.2)) N.1 rfl
theorem snd_pop0 {c : Nat} {p : Pos} (Ho : SndE G C n sc o eo) (hbase : ∀ env, attributeBase eo "pop" env (eval eo env) = eval eo env := by intro _; rfl) (hline : (apos.endLine == pos.line) = true := by rfl) :
  SndE G C n sc (.pop0 o) (.Call (.Attribute eo "pop" apos) [.Constant (.int 0) c p] [] pos) := fun A env me I mh s Qm Q Er hA hsc S R hw hQ => by
 have hst : ∀ env, starEach [.Constant (.int 0) c p] env = [(false, eval (.Constant (.int 0) c p) env)] := fun _ => rfl
 refine call_meth (es := .cons (.int 0) .nil) Ho (snd_cons snd_int snd_nil hst) hA hsc S R hw PySem.F.plainAttrs_list PySem.F.slot_list_pop PySem.F.type_list_pop hbase hline (fun env => by rw [hst]; rfl) (by simp) (Qm := fun _ _ => True)
  (fun vo mh' xo I' s' hk S' r => by obtain ⟨l, v, vs, ⟨rfl, hl, _⟩, _⟩ := hk; exact list_hold S' ⟨l, _, rfl, hl⟩ r) fun vo mh' xo I' s' hk e S' R' r => ?_
 obtain ⟨l, v, vs, ⟨rfl, hl, hr⟩, hp⟩ := hk
 obtain ⟨l1, rfl⟩ := r
 rw [show backTo pos (starEach [.Constant (.int 0) c p] env) = [(false, eval (.Constant (.int 0) c p) env)] by rw [hst]; rfl]
 obtain ⟨_, xs, k, hL, f⟩ := S'.list l1 hl
 cases f with
 | cons r f =>
 rename_i x xs
 refine PySem.P.pop_at_list (wpAny_Constant_int ?_)
 refine ⟨(x :: xs).toArray, k, 0, _, 0, x, ?_, rfl, hL, by decide, by simp [seqIndex?], by simp, ?_⟩
 ·have := f.length
  simp only [List.size_toArray, List.length_cons]
  exact room_line (by lia)
 ·have N := S'.setList (t := s'.toks + 1) (f := fun xs => xs.eraseIdxIfInBounds 0) (ys := xs) l1 hl hL (by simp) f
  exact hQ _ _ _ _ _ hp (e.trans N.2) N.1 (r.next S' N.2)
theorem snd_index (Ho : SndE G C n sc o eo) (Ha : SndE G C n sc a ea) (hbase : ∀ env, attributeBase eo "index" env (eval eo env) = eval eo env := by intro _; rfl) (hline : (apos.endLine == pos.line) = true := by rfl)
  (hst : ∀ env, starEach [ea] env = [(false, eval ea env)] := by intro _; rfl) : SndE G C n sc (.index o a) (.Call (.Attribute eo "index" apos) [ea] [] pos) := fun A env me I mh s Qm Q Er hA hsc S R hw hQ => by
 refine call_meth (es := .cons a .nil) Ho (snd_cons Ha snd_nil hst) hA hsc S R hw PySem.F.plainAttrs_list PySem.F.slot_list_index PySem.F.type_list_index hbase hline (fun env => by rw [hst]; rfl) (by simp) (Qm := fun _ _ => True)
  (fun vo mh' xo I' s' hk S' r => list_hold S' hk.1 r) fun vo mh' xo I' s' hk e S' R' r => ?_
 obtain ⟨⟨l, vs, rfl, hl⟩, hk⟩ := hk
 obtain ⟨l1, rfl⟩ := r
 rw [show backTo pos (starEach [ea] env) = [(false, eval ea env)] by rw [hst]; rfl]
 refine PySem.P.index_list (Ha A env me I' mh' s' _ _ _ hA hsc S' R' hk fun va h2 xa I2 s2 hk2 e2 S2 ra => ?_)
 obtain ⟨l', ns, m, ⟨q, rfl, hl', hm, hr⟩, hp⟩ := hk2
 cases q
 have l2 : l < h2.nxt := Nat.lt_of_lt_of_le l1 e2.le
 obtain ⟨_, xs, k, hL, f⟩ := S2.list l2 hl'
 obtain ⟨t, rfl⟩ := ra
 have ha := e2.agree l l1
 rw [← ha.1]
 have f' := F2.map_left f
 have hlen := f'.length
 have hi : ns.idxOf m < ns.length := List.idxOf_lt_length_iff.mpr hm
 refine ⟨xs.toArray, k, (fun y => match y with | .str b _ => decide (b = m.txt) | _ => false), ns.idxOf m, by simp only [List.size_toArray]; lia, hL, ?_, by lia, ?_, ?_, ?_⟩
 ·intro y hy
  obtain ⟨x, _, t', rfl⟩ := f'.mem_right (List.mem_toArray.mp hy)
  exact fun _ _ _ _ _ _ h => wpAny_eqBool_str h
 ·obtain ⟨y, h1, t', rfl⟩ := f'.get (List.getElem?_eq_getElem hi)
  rw [List.getElem_idxOf hi] at h1
  have : xs.toArray[ns.idxOf m] = .str m.txt t' := by
   rw [List.getElem?_eq_some_iff] at h1
   obtain ⟨_, h1⟩ := h1
   simpa using h1
  rw [this]; simp
 ·intro j hj hlt
  have hj' : j < ns.length := by lia
  obtain ⟨y, h1, t', rfl⟩ := f'.get (List.getElem?_eq_getElem hj')
  have : xs.toArray[j] = .str ns[j].txt t' := by
   rw [List.getElem?_eq_some_iff] at h1
   obtain ⟨_, h1⟩ := h1
   simpa using h1
  rw [this]
  dsimp only
  rw [dtxt_eq]
  have := List.not_of_lt_findIdx (p := (· == m)) (xs := ns) (i := j) hlt
  simpa using this
 ·exact hQ _ _ _ _ _ hp (e.trans e2) (S2.toks _) ⟨_, rfl⟩
theorem snd_get (Ho : SndE G C n sc o eo) (Hk : SndE G C n sc k ek) (Hd : SndE G C n sc d ed) (hbase : ∀ env, attributeBase eo "get" env (eval eo env) = eval eo env := by intro _; rfl) (hline : (apos.endLine == pos.line) = true := by rfl)
  (hst : ∀ env, starEach [ek, ed] env = [(false, eval ek env), (false, eval ed env)] := by intro _; rfl) (hst2 : ∀ env, starEach [ed] env = [(false, eval ed env)] := by intro _; rfl) :
  SndE G C n sc (.get o k d) (.Call (.Attribute eo "get" apos) [ek, ed] [] pos) := fun A env me I mh s Qm Q Er hA hsc S R hw hQ => by
 refine call_meth (es := .cons k (.cons d .nil)) Ho (snd_cons Hk (snd_cons Hd snd_nil hst2) (fun env => by rw [hst, hst2])) hA hsc S R hw PySem.F.plainAttrs_dict PySem.F.slot_dict_get PySem.F.type_dict_get hbase hline (fun env => by rw [hst]; rfl) (by simp) (Qm := fun _ _ => True)
  (fun vo mh' xo I' s' hk S' r => dict_hold S' hk.1 r) fun vo mh' xo I' s' hk e S' R' r => ?_
 obtain ⟨⟨l, es, rfl, hl⟩, hk⟩ := hk
 obtain ⟨l1, rfl⟩ := r
 rw [show backTo pos (starEach [ek, ed] env) = [(false, eval ek env), (false, eval ed env)] by rw [hst]; rfl]
 refine wpAny_dict_get2 (knd := intKind G.prog G.w) (notSys S' l1) (snd_two Hk Hd hA hsc S' R' hk fun vk vd h3 xk xd I3 s3 hk3 e3 S3 R3 rk rd => ?_)
 obtain ⟨l', es', i, m, ⟨q, rfl, rfl, hl'⟩, hp⟩ := hk3
 cases q
 have l2 : l < h3.nxt := Nat.lt_of_lt_of_le l1 e3.le
 obtain ⟨_, kvs, hd, f⟩ := S3.dict l2 hl'
 obtain ⟨t, rfl⟩ := rk
 obtain ⟨u, rfl⟩ := rd
 have ha := e3.agree l l1
 rw [← ha.1]
 refine ⟨i, _, intKind_is _ _ _ _, hd.mapOf, ?_⟩
 rcases F2.valueAt (f := id) (fun _ _ e => e) f i with ⟨q1, q2⟩ | ⟨z, t, q1, q2⟩
 ·rw [show valueAt kvs i = none from q2]
  rw [q1] at hp
  exact hQ _ _ _ _ _ hp (e.trans e3) (S3.toks _) ⟨_, rfl⟩
 ·rw [show valueAt kvs i = some _ from q2]
  rw [q1] at hp
  exact hQ _ _ _ _ _ hp (e.trans e3) (S3.toks _) ⟨t, rfl⟩
end
end Mine
end
section
namespace Mine
open PySem PySem.W PyProof.Rows PySem.Calls
variable {G : Gd} {C : CS} {n : Nat} {sc : Scope}
noncomputable def KeysOk (es : List DictEntry) : Prop := ∀ e ∈ es, ∃ (f : Fd) (t : Tok), e.key = .str f.txt t
theorem getL_keys {es : List DictEntry} (h : KeysOk es) (x : Str) : getL x es = some ((es.find? (·.key.isStr x)).map (·.val)) := by
 unfold getL
 have : es.any (·.refKey) = false := by
  rw [List.any_eq_false]
  intro e he
  obtain ⟨f, t, q⟩ := h e he
  simp [DictEntry.refKey, q]
 rw [this]
 cases List.find? (fun x_1 => x_1.key.isStr x) es <;> rfl
theorem isStr_fd (f g : Fd) (t : Tok) : (Value.str f.txt t).isStr g.txt = decide (f = g) := by
 show (f.txt == g.txt) = _
 by_cases h : f = g
 ·subst h; simp
 ·have : ¬ f.txt = g.txt := fun e => h (Fd.inj e)
  simp [h, this]
theorem putL_keys {f : Fd} {hsh : Int} {t : Tok} {v : Value} {es : List DictEntry} (h : KeysOk es) : KeysOk (putL f.txt hsh (.str f.txt t) v es) := by
 induction es with
 | nil => exact fun e he => by cases List.mem_singleton.mp he; exact ⟨f, t, rfl⟩
 | cons a es ih =>
  intro e he
  unfold putL at he
  split at he
  ·cases he with
   | head => exact h a (.head _)
   | tail _ he => exact h e (.tail _ he)
  ·cases he with
   | head => exact h _ (.head _)
   | tail _ he => exact ih (fun e he => h e (.tail _ he)) e he
theorem find_put {f g : Fd} {hsh : Int} {t : Tok} {v : Value} {es : List DictEntry} (h : KeysOk es) :
  ((putL f.txt hsh (.str f.txt t) v es).find? (·.key.isStr g.txt)).map (·.val) = if g = f then some v else (es.find? (·.key.isStr g.txt)).map (·.val) := by
 induction es with
 | nil =>
  unfold putL
  rw [List.find?_cons, isStr_fd]
  by_cases h : g = f
  ·rw [if_pos h, decide_eq_true h.symm]; rfl
  ·rw [if_neg h, decide_eq_false fun e => h e.symm]
 | cons a es ih =>
  obtain ⟨k, t', q⟩ := h a (.head _)
  have ih := ih fun e he => h e (.tail _ he)
  unfold putL
  rw [List.find?_cons, q, isStr_fd, isStr_fd]
  by_cases h1 : k = f
  ·subst h1
   rw [decide_eq_true rfl, if_pos rfl, List.find?_cons, isStr_fd]
   by_cases h2 : g = k
   ·rw [if_pos h2, decide_eq_true h2.symm]; rfl
   ·rw [if_neg h2, decide_eq_false fun e => h2 e.symm]
  ·rw [decide_eq_false h1, if_neg Bool.false_ne_true, List.find?_cons, q, isStr_fd]
   by_cases h2 : k = g
   ·subst h2; rw [decide_eq_true rfl, if_neg h1]
   ·rw [decide_eq_false h2]; exact ih
theorem len_put {f : Fd} {hsh : Int} {t : Tok} {v : Value} {es : List DictEntry} (h : KeysOk es) :
  (putL f.txt hsh (.str f.txt t) v es).length = if (es.find? (·.key.isStr f.txt)).isSome then es.length else es.length + 1 := by
 induction es with
 | nil => rfl
 | cons a es ih =>
  obtain ⟨k, t', q⟩ := h a (.head _)
  have ih := ih fun e he => h e (.tail _ he)
  unfold putL
  rw [List.find?_cons, q, isStr_fd]
  by_cases h1 : k = f
  ·rw [decide_eq_true h1]; rfl
  ·rw [decide_eq_false h1, if_neg Bool.false_ne_true, List.length_cons, ih]
   show _ = if (es.find? (·.key.isStr f.txt)).isSome then _ else _
   split <;> rfl
theorem filter_put {α : Type} {p q : α → Bool} {f : α} (hp : p f = false) (hq : q f = true) (he : ∀ g, g ≠ f → q g = p g) {l : List α} (hn : l.Nodup) (h : f ∈ l) : (l.filter q).length = (l.filter p).length + 1 := by
 induction l with
 | nil => exact nomatch h
 | cons a l ih =>
  obtain ⟨n1, hn⟩ := List.nodup_cons.mp hn
  by_cases ha : a = f
  ·subst ha
   rw [List.filter_cons, List.filter_cons, hp, hq, List.filter_congr fun g hg => he g fun e => n1 (e ▸ hg)]; rfl
  ·have ih := ih hn ((List.mem_cons.mp h).resolve_left fun e => ha e.symm)
   rw [List.filter_cons, List.filter_cons, he a ha]
   split
   ·exact congrArg Nat.succ ih
   ·exact ih
theorem nodup_allFd : allFd.Nodup := by decide +kernel
theorem FieldsR.put {I : Inj} {k : Nat} {h : Heap} {fs : Fd → Option V} {es : List DictEntry} (r : FieldsR I k h fs es) {f : Fd} {hsh : Int} {t : Tok} {v : V} {x : Value} (hv : VR I k h v x) :
  FieldsR I k h (fun g => if g = f then some v else fs g) (putL f.txt hsh (.str f.txt t) x es) := by
 have kk : KeysOk es := r.keys
 have hs : ∀ g, (es.find? (·.key.isStr g.txt)).isSome = (fs g).isSome := fun g => by
  have q := r.fld g
  split at q
  ·rename_i v e
   obtain ⟨v', h1, _⟩ := q
   rw [getL_keys kk] at h1
   simp only [Option.some.injEq, Option.map_eq_some_iff] at h1
   obtain ⟨en, h1, _⟩ := h1
   rw [h1, e]; rfl
  ·rename_i e
   rw [getL_keys kk] at q
   simp only [Option.some.injEq, Option.map_eq_none_iff] at q
   rw [q, e]; rfl
 refine ⟨putL_keys kk, ?_, fun g => ?_⟩
 ·rw [len_put kk, hs f]
  have := r.len
  cases hf : (fs f).isSome with
  | true =>
   simp only [if_true]
   refine Nat.le_trans this (Nat.le_of_eq ?_)
   rw [List.filter_congr]
   intro g _
   by_cases hg : g = f
   ·subst hg; simp [hf]
   ·simp [hg]
  | false =>
   simp only [Bool.false_eq_true, if_false]
   rw [filter_put (p := fun g => (fs g).isSome) (q := fun g => (if g = f then some v else fs g).isSome) (f := f) hf (by simp) (fun g hg => by simp [hg]) nodup_allFd (mem_allFd f)]
   lia
 ·rw [getL_keys (putL_keys kk), find_put kk]
  by_cases hg : g = f
  ·subst hg
   simp only [if_true]
   exact ⟨x, rfl, hv⟩
  ·simp only [hg, if_false]
   have q := r.fld g
   rw [getL_keys kk] at q
   exact q
section
variable {I : Inj} {mh : MH} {s : Shared} {A : Around} {Er : Value → Shared → Prop}
theorem St.setField (S : G.St I mh s) {l : Nat} {c : Cl} {fs : Fd → Option V} {f : Fd} {v : V} {x : Value} {es : List DictEntry} {k : Nat} {hsh : Int} {t u : Tok} {h' : Heap} (hl : l < mh.nxt) (e : mh.get l = some (.inst c fs))
  (hd : s.heap.get? (I.d l) = some (dictOf es k)) (hF : FieldsR I mh.nxt s.heap fs es) (hv : VR I mh.nxt s.heap v x) (h1 : h'.get? (I.d l) = some (Obj.putName f.txt hsh (.str f.txt t) x (dictOf es k))) (h2 : ∀ b, b ≠ I.d l → h'.get? b = s.heap.get? b) :
  G.St I (mh.set l (.inst c fun g => if g = f then some v else fs g)) { s with heap := h', toks := u } ∧ Ext NoX I mh.nxt s.heap I (mh.set l (.inst c fun g => if g = f then some v else fs g)).nxt h' := by
 obtain ⟨q1, q2, _⟩ := S.inst hl e
 refine S.turn (s' := { s with heap := h', toks := u }) hl (fun b h3 h4 => h2 b h4) rfl rfl fun kt => ?_
 refine ⟨q1, ?_, putL f.txt hsh (.str f.txt t) x es, putN f.txt es k, ?_, (hF.put (f := f) (hsh := hsh) (t := t) hv).stay (Nat.le_refl _) (fun _ _ => rfl) kt⟩
 ·show h'.get? _ = _
  rw [h2 _ (Ne.symm q1)]; exact q2
 ·show h'.get? _ = _
  rw [h1, putName_dict]
theorem setAttr_sound {o v : V} {xo x : Value} {f : Fd} {P : MH → Prop} {Q : Unit → Shared → Prop} {env : PySem.Env} {me : Env} (S : G.St I mh s) (hw : setAttrop o f v mh P) (ro : VR I mh.nxt s.heap o xo) (r : VR I mh.nxt s.heap v x)
  (hQ : ∀ mh' s', P mh' → Ext NoX I mh.nxt s.heap I mh'.nxt s'.heap → G.St I mh' s' → Q () s') : wpAny G.M A (setAttr xo f.txt x) Q Er s := by
 obtain ⟨l, c, fs, ⟨rfl, e, hf⟩, hp⟩ := hw
 obtain ⟨l1, rfl⟩ := ro
 obtain ⟨h1, h2, es, k, h3, h4⟩ := S.inst l1 e
 have kX : ∀ {t : Tok}, G.K.In ({ s with toks := t } : Shared).heap := fun {t} => G.X.keeps S.base
 have In : InstAt s.heap (I.a l) (instObj (G.cls c) (I.d l)) (G.cls c) (some (dictOf es k)) := ⟨h2, rfl, rfl, h3⟩
 refine set_plain (kX (t := s.toks)) In (G.clsSet c) ?_
 refine osa_open (s := { s with toks := s.toks + 1 }) (r := none) kX In (G.clsOver c) (by unfold takerIn; rw [G.fld c f hf]; rfl) fun b => ?_
 obtain ⟨cd, hc, hd'⟩ := any_some (G.clsDict c)
 have hlen : es.length ≤ 17 := Nat.le_trans h4.len (Nat.le_trans (List.length_filter_le _ _) (by decide))
 dsimp only
 refine wpAny_bind (wpAny_pure (wpAny_bind (wpAny_bind (wpAny_loadPart h2 (wpAny_bind ((looks_clsIn (kX (t := s.toks + 1)) hc).here ?_))))))
 rw [hd']
 refine wpAny_pure (a := some (I.d l)) (wpAny_bind (wpAny_pure (wpAny_bind ?_)))
 unfold nsSet
 refine wpAny_bind (wpAny_bind (wpAny_askSetting (wpAny_pure (wpAny_bind (wpAny_mkText (wpAny_bind (wpAny_loadPart h3 ?_)))))))
 have c0 : (!es.any (·.key.isStr f.txt) && es.any (·.refKey)) = false := by
  have : es.any (·.refKey) = false := by
   rw [List.any_eq_false]
   intro e he
   obtain ⟨f, t, q⟩ := h4.keys e he
   simp [DictEntry.refKey, q]
  rw [this, Bool.and_false]
 dsimp only
 rw [aRefKeyMayBeTheName_at, List.any_toArray, List.any_toArray, c0]
 refine wpAny_updatePart h3 ?_
 have fz : ∀ hsh t, (Obj.putName f.txt hsh (.str f.txt t) x (dictOf es k)).isFreed = false := fun hsh t => by rw [putName_dict]; rfl
 have U1 := fun hsh t => Heap.get?_update_self (Obj.putName f.txt hsh (.str f.txt t) x) h3 (fz hsh t)
 have hlen2 : ∀ hsh t, (putL f.txt hsh (.str f.txt t) x es).length ≤ 18 := fun hsh t => by rw [len_put h4.keys]; split <;> lia
 refine wpAny_bind (wpAny_lookBehind (U1 _ _) (by rw [putName_dict]; exact pastItsLine_dict (by rw [List.size_toArray, sizeLine_eq]; exact Nat.le_trans (hlen2 _ _) (by lia))) ?_)
 exact wpAny_pure (let N := S.setField l1 e h3 h4 r (U1 _ _) (fun b hb => Heap.get?_update_ne _ _ _ _ hb); hQ _ _ hp N.2 N.1)
end
end Mine
end
section
namespace Mine
open PySem PySem.W PyProof.Rows PySem.Calls
variable {G : Gd} {C : CS} {n : Nat} {sc : Scope}
noncomputable def AOkC (n : Nat) (A : Around) : Prop := A.handled = none ∧ A.depth + 10 * n + 14 ≤ recursionLimit ∧ A.units + 50 * n + 70 ≤ cLine
theorem AOk.c {A : Around} (h : AOk n A) : AOkC n A := ⟨h.1, by have := h.2.1; lia, by have := h.2.2; lia⟩
theorem AOkC.deeper {A : Around} (h : AOkC (n + 1) A) (env : PySem.Env) : AOk n (A.deeper env) := ⟨h.1, by have := h.2.1; show A.depth + 1 + _ + _ ≤ _; lia, by have := h.2.2; show A.units + 3 + _ + _ ≤ _; lia⟩
noncomputable def SndC (G : Gd) (C : CS) (n : Nat) : Prop :=
 ∀ (f : Fn) (A : Around) (I : Inj) (mh : MH) (s : Shared) (vs : List V) (xs : List Value) (Qm : V → MH → Prop) (R : Result → Shared → Prop),
  AOkC n A → G.St I mh s → G.h₀.objs.size ≤ s.heap.objs.size → VRs I mh.nxt s.heap vs xs → C f vs mh Qm →
  (∀ v mh' x I' s', Qm v mh' → Ext NoX I mh.nxt s.heap I' mh'.nxt s'.heap → G.St I' mh' s' → VR I' mh'.nxt s'.heap v x → R (.ok (.ret x)) s') →
  codeAny G.M A (.call (.ref (G.fa f)) ⟨xs, []⟩) R s
section
variable {I : Inj} {mh : MH} {s : Shared} {A : Around} {Er : Value → Shared → Prop} {env : PySem.Env} {me : Env}
theorem name_glob {k : Nat} {x : Str} {pos : Pos} {v : Value} {Q : Value → Shared → Prop} (S : G.St I mh s) (R : EnvR G env me I k s.heap) (hv : G.mg x = some v)
  (hx : env.kindOf x = some .globalImplicit) (h : Q v s) (hd : (x == ("__debug__" : Str)) = false) : wpAny G.M A (eval (.Name x pos) env) Q Er s :=
 Name_function_global R.kind hx (loadGlobal_global (env := env) (by rw [R.glob]; exact G.T.g.keeps S.base) hv h) hd
theorem evalArgs_own {f : Value} {first : List Value} {args : List (Bool × Sem Value)} {pos : Pos} {Q : Value → Shared → Prop} (hk : keepIn G.K f = true) (hp : args.any (·.1) = false)
  (h : wpAny G.M A (spliced args) (fun vs s' => G.K.In s'.heap ∧ wpAny G.M A (call f (first ++ vs)) Q Er s') Er s) : wpAny G.M A (callWith pos f first args []) Q Er s :=
 callWith_of (P := G.K.In) (by rw [hp]; rfl) (keeps_K hk) (evalArgs_of hp h)
theorem call_fn {f : Fn} {vs : List V} {xs : List Value} {Qm : V → MH → Prop} {Q : Value → Shared → Prop} (HC : SndC G C n) (hA : AOkC n A) (S : G.St I mh s) (z : G.h₀.objs.size ≤ s.heap.objs.size) (r : VRs I mh.nxt s.heap vs xs) (hw : C f vs mh Qm) (hQ : Back G I mh s Qm Q) :
  wpAny G.M A (call (.ref (G.fa f)) xs) Q Er s :=
 wpAny_call (HC f A I mh s vs xs Qm _ hA S z r hw fun v mh' x I' s' hp e S' r => hQ v mh' x I' s' hp e S' r)
end
section
variable {es : Es} {exs : List Expr} {p pos apos : Pos}
theorem snd_call {f : Fn} {x : Str} (HC : SndC G C n) (Hs : SndEs G C n sc es exs) (hf : f.isPlain = true := by rfl) (hn : x = f.txt := by rfl) (hx : sc.names.lookup x = some .globalImplicit := by rfl)
  (hst : ∀ env, (starEach exs env).any (·.1) = false := by intro _; rfl) (hd : (x == ("__debug__" : Str)) = false := by decide +kernel) : SndE G C n sc (.call f es) (.Call (.Name x p) exs [] pos) := fun A env me I mh s Qm Q Er hA hsc S R hw hQ => by
 subst hn
 refine wpAny_Call_ofName (name_glob S R (G.fnGlob f hf) (by subst hsc; exact hx) ?_ hd)
 refine evalArgs_own (G.fnKeep f) (by rw [back_any]; exact hst env) (Hs pos A env me I mh s _ _ _ hA hsc S R hw fun vs mh' xs I' s' q e S' r => ⟨G.X.keeps S'.base, ?_⟩)
 exact call_fn HC hA.c S' ((R.next S e S').size) r q fun v mh'' x I'' s'' hp e' S'' r => hQ _ _ _ _ _ hp (e.trans e') S'' r
theorem fn_fd {f : Fn} (hf : f.isMeth = true) {g : Fd} (h : f.txt = g.txt) : g = .number := by
 have key : (allFd.all fun g => !f.isMeth || (decide (¬ f.txt = g.txt) || decide (g = .number))) = true := by cases f <;> decide +kernel
 have q := List.all_eq_true.mp key g (mem_allFd g)
 rw [hf, decide_eq_false (not_not_intro h)] at q
 exact of_decide_eq_true q
theorem snd_meth {f : Fn} {o : E} {eo : Expr} {name : Str} (HC : SndC G C n) (Ho : SndE G C n sc o eo) (Hs : SndEs G C n sc es exs) (hf : f.isMeth = true := by rfl) (hn : name = f.txt := by rfl)
  (hst : ∀ env, (starEach exs env).any (·.1) = false := by intro _; rfl)
  (he : ∀ env, eval (.Call (.Attribute eo name apos) exs [] pos) env = (do
   let ov ← eval eo env
   standAt apos.atName
   let (f, first) ← holding [ov] (getMethod ov name (do return (← importBound eo env).getD true))
   callWith pos f first (backTo pos (starEach exs env)) (backToKw pos (keywordEach [] env))) := by intro _; rfl) :
  SndE G C n sc (.meth f o es) (.Call (.Attribute eo name apos) exs [] pos) := fun A env me I mh s Qm Q Er hA hsc S R hw hQ => by
 subst hn
 refine methodCall_KW (Ho A env me I mh s _ _ _ hA hsc S R hw fun vo h1 xo I1 s1 hw1 e1 S1 r1 => ?_) (he env)
 obtain ⟨⟨l, fs, rfl, hl, hno⟩, hw1⟩ := hw1
 obtain ⟨l1, rfl⟩ := r1
 have R1 := R.next S e1 S1
 obtain ⟨q1, q2, es', k, q3, q4⟩ := S1.inst l1 hl
 obtain ⟨m, F, _⟩ := R1.fr
 have hget : getL f.txt es' = some none := by
  have kk : KeysOk es' := q4.keys
  have q := q4.fld .number
  rw [hno] at q
  have : es'.find? (·.key.isStr f.txt) = none := by
   rw [List.find?_eq_none]
   intro e he hs
   obtain ⟨g, t, hk⟩ := kk e he
   rw [hk] at hs
   have hs : g.txt = f.txt := by simpa [Value.isStr] using hs
   have := fn_fd hf hs.symm
   subst this
   rw [getL_keys kk] at q
   simp only [Option.some.injEq, Option.map_eq_none_iff, List.find?_eq_none] at q
   have := q e he
   rw [hk, isStr_fd] at this
   simp at this
  rw [getL_keys kk, this]; rfl
 refine method_inst F G.X (⟨q2, rfl, rfl, q3⟩ : InstAt s1.heap (I1.a l) _ (G.cls .grammar) (some (dictOf es' k))) (G.clsGet .grammar _) (G.fnMeth f hf) (G.fnIs f) hget ?_
 refine evalArgs_own (G.fnKeep f) (by rw [back_any]; exact hst env) (Hs pos A env me I1 h1 s1 _ _ _ hA hsc S1 R1 hw1 fun vs mh' xs I' s' q e S' r => ⟨G.X.keeps S'.base, ?_⟩)
 have rl : VR I' mh'.nxt s'.heap (.loc l) (.ref (I1.a l)) := VR.next (v := .loc l) S1 e ⟨l1, rfl⟩
 exact call_fn (xs := .ref (I1.a l) :: xs) HC hA.c S' ((R1.next S1 e S').size) (.cons rl r) q fun v mh'' x I'' s'' hp e' S'' r => hQ _ _ _ _ _ hp (e1.trans (e.trans e')) S'' r
theorem snd_mk {c : Cl} {x : Str} (HC : SndC G C n) (Hs : SndEs G C n sc es exs) (hn : x = c.txt := by rfl) (hx : sc.names.lookup x = some .globalImplicit := by rfl)
  (hst : ∀ env, (starEach exs env).any (·.1) = false := by intro _; rfl) (hd : (x == ("__debug__" : Str)) = false := by decide +kernel) : SndE G C n sc (.mk c es) (.Call (.Name x p) exs [] pos) := fun A env me I mh s Qm Q Er hA hsc S R hw hQ => by
 subst hn
 refine wpAny_Call_ofName (name_glob S R (G.clsGlob c) (by subst hsc; exact hx) ?_ hd)
 refine evalArgs_own (G.clsKeep c) (by rw [back_any]; exact hst env) (Hs pos A env me I mh s _ _ _ hA hsc S R hw fun vs mh' xs I' s' q e S' r => ⟨G.X.keeps S'.base, ?_⟩)
 refine wpAny_call ?_
 have zz := (R.next S e S').size
 have X' : G.K.In s'.heap := G.X.keeps S'.base
 obtain ⟨hh, g, d, t, os⟩ := s'
 dsimp only at zz X' e r
 refine make_core (makes_of X' (G.clsMakes c)) (looks_findIn X' (G.clsInit c)) (fun self => bind_fn X' self (beq_iff_eq.mp (G.fnIs c.init))) (.inl rfl) ?_
 have k : ∀ b ob, hh.get? b = some ob → ((hh.push emptyDict).push (instObj (G.cls c) hh.objs.size)).get? b = some ob := fun b ob e => Heap.get?_push_of_some _ (Heap.get?_push_of_some _ e)
 have gd : ((hh.push emptyDict).push (instObj (G.cls c) hh.objs.size)).get? hh.objs.size = some emptyDict := Heap.get?_push_of_some _ (Heap.get?_push_size _ rfl)
 have ga : ((hh.push emptyDict).push (instObj (G.cls c) hh.objs.size)).get? (hh.objs.size + 1) = some (instObj (G.cls c) hh.objs.size) := by
  have := Heap.get?_push_size (hh.push emptyDict) (o := instObj (G.cls c) hh.objs.size) rfl
  rwa [Heap.size_push] at this
 obtain ⟨S2, e2⟩ := S'.alloc (s' := ⟨(hh.push emptyDict).push (instObj (G.cls c) hh.objs.size), g, d, t, os⟩) (o := .inst c fun _ => none) (a := hh.objs.size + 1) (d := hh.objs.size) k (get_size _ _ (Nat.le_succ _)) (get_size _ _ (Nat.le_refl _)) (Nat.le_succ_of_le zz) zz rfl rfl
  ⟨by rw [put_at.1, put_at.2]; exact Nat.ne_of_lt (Nat.lt_succ_self _), by rw [put_at.1, put_at.2]; exact ga, [], 0, by rw [put_at.2]; exact gd, ⟨fun _ h => (nomatch h), by simp, fun f => rfl⟩⟩
 have hA2 : AOkC n (A.under (.builtin "type.__call__" ⟨.ref (G.cls c) :: xs, []⟩)) := ⟨hA.1, by have := hA.2.1; show A.depth + ((Code.builtin "type.__call__" ⟨.ref (G.cls c) :: xs, []⟩ : Code).weight) + _ + _ ≤ _; have : (Code.builtin "type.__call__" ⟨.ref (G.cls c) :: xs, []⟩ : Code).weight = 1 := rfl; lia, by have := hA.2.2; show A.units + ((Code.builtin "type.__call__" ⟨.ref (G.cls c) :: xs, []⟩ : Code).cUnits) + _ + _ ≤ _; have : (Code.builtin "type.__call__" ⟨.ref (G.cls c) :: xs, []⟩ : Code).cUnits = 1 := rfl; lia⟩
 have r2 : VRs (I'.put mh'.nxt (hh.objs.size + 1) hh.objs.size) (mh'.new (.inst c fun _ => none)).nxt ((hh.push emptyDict).push (instObj (G.cls c) hh.objs.size)) vs xs := r.imp fun _ _ q => q.next S' e2
 have q' : C c.init (.loc mh'.nxt :: vs) (mh'.new (.inst c fun _ => none)) fun r h2 => r = .none ∧ Qm (.loc mh'.nxt) h2 := by cases c <;> exact q
 refine HC c.init _ _ _ _ (.loc mh'.nxt :: vs) _ _ _ hA2 S2 (Nat.le_trans zz (by show _ ≤ ((hh.push emptyDict).push _).objs.size; rw [Heap.size_push, Heap.size_push]; lia)) (.cons ⟨Nat.lt_succ_self _, by rw [put_at.1]⟩ r2) q' fun v mh'' x I'' s'' hp e3 S3 r3 => ?_
 obtain ⟨rfl, hp⟩ := hp
 cases r3
 refine ⟨rfl, hQ _ _ _ _ _ hp (e.trans (e2.trans e3)) S3 ?_⟩
 have : VR (I'.put mh'.nxt (hh.objs.size + 1) hh.objs.size) (mh'.new (.inst c fun _ => none)).nxt ((hh.push emptyDict).push (instObj (G.cls c) hh.objs.size)) (.loc mh'.nxt) (.ref (hh.objs.size + 1)) := ⟨Nat.lt_succ_self _, by rw [put_at.1]⟩
 exact this.next S2 e3
end
end Mine
end
section
namespace Mine
open PySem PySem.W PyProof.Rows PySem.Calls
variable {G : Gd} {C : CS} {n : Nat} {sc : Scope}
noncomputable def FlR (I : Inj) (n : Nat) (h : Heap) : Fl → Flow → Prop
 | .next, f => f = .next
 | .cont, f => f = .cont
 | .ret v, f => ∃ x, f = .ret x ∧ VR I n h v x
noncomputable def SOut (G : Gd) (env : PySem.Env) (I : Inj) (mh : MH) (s : Shared) (Qm : Fl → Env → MH → Prop) (Q : Flow → Shared → Prop) : Prop :=
 ∀ fl me' mh' f I' s', Qm fl me' mh' → Ext (FX env) I mh.nxt s.heap I' mh'.nxt s'.heap → G.St I' mh' s' → EnvR G env me' I' mh'.nxt s'.heap → FlR I' mh'.nxt s'.heap fl f → Q f s'
noncomputable def SndS (G : Gd) (C : CS) (n : Nat) (sc : Scope) (st : S) (ex : Stmt) : Prop :=
 ∀ (A : Around) (env : PySem.Env) (me : Env) (I : Inj) (mh : MH) (s : Shared) (Qm : Fl → Env → MH → Prop) (Q : Flow → Shared → Prop) (Er : Value → Shared → Prop),
  AOk n A → env.scope = sc → G.St I mh s → EnvR G env me I mh.nxt s.heap → wS C st me mh Qm → SOut G env I mh s Qm Q → wpAny G.M A (exec ex env) Q Er s
noncomputable def SndSs (G : Gd) (C : CS) (n : Nat) (sc : Scope) (st : Ss) (ex : List Stmt) : Prop :=
 ∀ (A : Around) (env : PySem.Env) (me : Env) (I : Inj) (mh : MH) (s : Shared) (Qm : Fl → Env → MH → Prop) (Q : Flow → Shared → Prop) (Er : Value → Shared → Prop),
  AOk n A → env.scope = sc → G.St I mh s → EnvR G env me I mh.nxt s.heap → wSs C st me mh Qm → SOut G env I mh s Qm Q → wpAny G.M A (execs ex env) Q Er s
section
variable {I I' : Inj} {mh mh' : MH} {s s' : Shared} {A : Around} {Er : Value → Shared → Prop} {env : PySem.Env} {me me' : Env}
theorem SOut.after {Qm : Fl → Env → MH → Prop} {Q : Flow → Shared → Prop} (e : Ext (FX env) I mh.nxt s.heap I' mh'.nxt s'.heap) (h : SOut G env I mh s Qm Q) : SOut G env I' mh' s' Qm Q :=
 fun fl me' mh'' f I'' s'' hp e' S' R' r => h fl me' mh'' f I'' s'' hp (e.trans e') S' R' r
theorem Ext.up (e : Ext NoX I mh.nxt s.heap I' mh'.nxt s'.heap) : Ext (FX env) I mh.nxt s.heap I' mh'.nxt s'.heap := e.weaken fun _ h => h.elim
theorem snd_done : SndSs G C n sc .nil [] := fun A env me I mh s Qm Q Er hA hsc S R hw hQ => wpAny_execs_nil (hQ _ _ _ _ _ _ hw .refl S R rfl)
theorem snd_then {a : S} {b : Ss} {ea : Stmt} {eb : List Stmt} (Ha : SndS G C n sc a ea) (Hb : SndSs G C n sc b eb) : SndSs G C n sc (.cons a b) (ea :: eb) := fun A env me I mh s Qm Q Er hA hsc S R hw hQ => by
 refine wpAny_execs_cons (Ha A env me I mh s _ _ _ hA hsc S R hw fun fl me' mh' f I' s' hp e S' R' r => ?_)
 cases fl with
 | next => cases r; exact Hb A env me' I' mh' s' _ _ _ hA hsc S' R' hp (hQ.after e)
 | cont => cases r; exact hQ _ _ _ _ _ _ hp e S' R' rfl
 | ret v => obtain ⟨x, rfl, r⟩ := r; exact hQ _ _ _ _ _ _ hp e S' R' ⟨x, rfl, r⟩
theorem snd_ret {a : E} {ea : Expr} {pos : Pos} (Ha : SndE G C n sc a ea) : SndS G C n sc (.ret a) (.Return (some ea) pos) := fun A env me I mh s Qm Q Er hA hsc S R hw hQ =>
 wpAny_Return_some (Ha A env me I mh s _ _ _ hA hsc S R hw fun v mh' x I' s' hp e S' r => hQ _ _ _ _ _ _ hp e.up S' (R.next S e S') ⟨x, rfl, r⟩)
theorem snd_cont {pos : Pos} : SndS G C n sc .cont (.Continue pos) := fun A env me I mh s Qm Q Er hA hsc S R hw hQ => wpAny_Continue (hQ _ _ _ _ _ _ hw .refl S R rfl)
theorem snd_raise {ex : Stmt} : SndS G C n sc .raise ex := fun A env me I mh s Qm Q Er hA hsc S R hw hQ => hw.elim
theorem snd_if {t : T} {a b : Ss} {et : Expr} {ea eb : List Stmt} {pos : Pos} (Ht : SndT G C n sc t et) (Ha : SndSs G C n sc a ea) (Hb : SndSs G C n sc b eb) : SndS G C n sc (.ite t a b) (.If et ea eb pos) := fun A env me I mh s Qm Q Er hA hsc S R hw hQ => by
 refine wpAny_If (Ht A env me I mh s _ _ _ hA hsc S R hw fun r mh' I' s' hp e S' => ?_)
 cases r with
 | true => simp only [if_true] at hp ⊢; exact Ha A env me I' mh' s' _ _ _ hA hsc S' (R.next S e S') hp (hQ.after e.up)
 | false => simp only [Bool.false_eq_true, if_false] at hp ⊢; exact Hb A env me I' mh' s' _ _ _ hA hsc S' (R.next S e S') hp (hQ.after e.up)
theorem snd_expr {a : E} {ea : Expr} {pos : Pos} (Ha : SndE G C n sc a ea) (hs : ∀ env, swapsWith ea none pos.line env = pure false := by intro _; rfl) :
  SndS G C n sc (.expr a) (.Expr ea pos) := fun A env me I mh s Qm Q Er hA hsc S R hw hQ =>
 wpAny_Expr_any (Ha A env me I mh s _ _ _ hA hsc S R hw fun v mh' x I' s' hp e S' r => hQ _ _ _ _ _ _ hp.2 e.up S' (R.next S e S') rfl) (by unfold interactive; rw [R.kind]; rfl) (hs env)
theorem snd_setSub {a i v : E} {ea ei ev : Expr} {p pos : Pos} (Ha : SndE G C n sc a ea) (Hi : SndE G C n sc i ei) (Hv : SndE G C n sc v ev)
  (hs : ∀ env, swapsWith ev (some (.Subscript ea ei p)) pos.line env = pure false := by intro _; rfl) : SndS G C n sc (.setSub a i v) (.Assign [.Subscript ea ei p] ev pos) := fun A env me I mh s Qm Q Er hA hsc S R hw hQ =>
 wpAny_Assign_Subscript (Hv A env me I mh s _ _ _ hA hsc S R hw fun vv h1 xv I1 s1 hw1 e1 S1 rv =>
  snd_two Ha Hi hA hsc S1 (R.next S e1 S1) hw1 fun va vi h3 xa xi I3 s3 hw3 e3 S3 R3 ra ri =>
   setSub_sound S3 hw3 ra ri (rv.next S1 e3) fun mh' s' hp e' S' => hQ _ _ _ _ _ _ hp (e1.trans (e3.trans e')).up S' (R3.next S3 e' S') rfl) (hs env)
theorem snd_setAttr {v : E} {f : Fd} {ev : Expr} {y : Str} {q p pos : Pos} (Hv : SndE G C n sc v ev) (hy : y = f.txt := by rfl) (hself : isVar sc "self" = true := by rfl)
  (hs : ∀ env, swapsWith ev (some (.Attribute (.Name "self" q) y p)) pos.line env = pure false := by intro _; rfl) : SndS G C n sc (.setAttr f v) (.Assign [.Attribute (.Name "self" q) y p] ev pos) := fun A env me I mh s Qm Q Er hA hsc S R hw hQ => by
 subst hy
 refine plainObj_wpAny_Assign_Attribute (Hv A env me I mh s _ _ _ hA hsc S R hw fun vv h1 xv I1 s1 hw1 e1 S1 rv => ?_) (hs env)
 obtain ⟨o, ho, hw1⟩ := hw1
 refine snd_var (x := .self) (C := C) (n := n) (sc := sc) rfl hself (by decide +kernel) (by decide +kernel) A env me I1 h1 s1 (fun o' h' => o' = o ∧ h' = h1) _ _ hA hsc S1 (R.next S e1 S1) ⟨o, ho, rfl, rfl⟩ fun o' h' xo I2 s2 ⟨q1, q2⟩ e2 S2 ro => ?_
 subst q1 q2
 exact setAttr_sound (env := env) (me := me) S2 hw1 ro (rv.next S1 e2) fun mh' s' hp e' S' => hQ _ _ _ _ _ _ hp (e1.trans (e2.trans e')).up S' (((R.next S e1 S1).next S1 e2 S2).next S2 e' S') rfl
noncomputable def NTup (h : Heap) (b : Addr) : Prop := ∀ o xs k, h.get? b = some o → o.cls = .type "tuple" → o.data ≠ .seq xs k
theorem St.off (S : G.St I mh s) {c : Addr} (k : ∀ b o, s.heap.get? b = some o → b ≠ c → s'.heap.get? b = some o) (hc : ¬ Own I mh.nxt c) (h0 : G.h₀.get? c = none) (hq : NTup s.heap c) (hg : s'.gens = s.gens) (ho : s'.os = s.os) : G.St I mh s' where
 base := fun b o e => k _ _ (S.base b o e) fun q => by rw [← q, e] at h0; cases h0
 fresh := S.fresh
 gens := hg.trans S.gens
 os := ho.trans S.os
 top := S.top
 obj := fun l hl => let ⟨o, h1, h2⟩ := S.obj l hl; ⟨o, h1, h2.stay (Nat.le_refl _) (fun _ _ => rfl) (fun b o xs j e hc hd => k b o e fun q => hq o xs j (by rw [← q]; exact e) hc hd) rfl rfl
  (fun o e => k _ o e fun q => hc ⟨l, hl, .inl q.symm⟩) (fun o e => k _ o e fun q => hc ⟨l, hl, .inr q.symm⟩)⟩
 inj := S.inj
 olds := S.olds
theorem Ext.off {h h' : Heap} {X : Addr → Prop} {k : Nat} {c : Addr} (hk : ∀ b o, h.get? b = some o → b ≠ c → h'.get? b = some o) (hX : X c) (hl : h.get? c ≠ none → h'.get? c ≠ none) : Ext X I k h I k h' where
 le := Nat.le_refl _
 agree := fun _ _ => ⟨rfl, rfl⟩
 new := fun _ h1 h2 => absurd h2 (Nat.not_lt.mpr h1)
 keep := fun b o e _ hx => hk b o e fun q => hx (q ▸ hX)
 live := fun b e => by
  cases q : h.get? b with
  | none => rfl
  | some o =>
   by_cases hb : b = c
   ·subst hb; exact absurd e (hl (by rw [q]; nofun))
   ·rw [hk b o q hb] at e; cases e
theorem h0_none {h₀ : Heap} {c : Addr} (h : h₀.objs.size ≤ c) : h₀.get? c = none := get_size h₀ c h
theorem cell_ne {h : Heap} {L c : Addr} {m : Str → Option Value} {o : Option Value} (N : h.Ns L m) (hc : h.IsCell c o) : c ≠ L := fun q => by
 obtain ⟨oL, es, ep, hL, hd, _⟩ := N
 obtain ⟨oc, h1, h2⟩ := hc
 rw [q, hL] at h1; cases h1
 rw [hd] at h2; cases h2
theorem store_sound {X : Addr → Prop} {x : Vr} {v : V} {xv : Value} {Q : Unit → Shared → Prop} (S : G.St I mh s) (R : EnvR G env me I mh.nxt s.heap) (hx : env.kindOf x.txt = some .local ∨ env.kindOf x.txt = some .cell) (r : VR I mh.nxt s.heap v xv)
  (hX : (env.kindOf x.txt = some .local → X env.locals) ∧ (env.kindOf x.txt = some .cell → ∀ b, env.cells.lookup x.txt = some b → X b))
  (hQ : ∀ s', G.St I mh s' → EnvR G env (upd me x v) I mh.nxt s'.heap → Ext X I mh.nxt s.heap I mh.nxt s'.heap → (∀ b o xs k, s.heap.get? b = some o → o.cls = .type "tuple" → o.data = .seq xs k → s'.heap.get? b = some o) → Q () s') :
  wpAny G.M A (storeName env x.txt xv) Q Er s := by
 obtain ⟨hk, hg, hb, ⟨m, F, hm⟩, hnL, hc, ha⟩ := R
 obtain ⟨oL, es, ep, hL, hLd, hLk⟩ := F.ns
 have hseqL : NTup s.heap env.locals := fun o xs k e _ q => by
  rw [hL] at e; cases e; rw [hLd] at q; cases q
 rcases hx with hx | hx
 ·have hp : (env.scope.kind == ScopeKind.class || env.scope.kind == ScopeKind.module && env.locals != env.globals) = false := by rw [hk]; rfl
  refine wpAny_storeName_local hx F.ns (fun h' hn hs => ?_) hp
  have kk : ∀ b o, s.heap.get? b = some o → b ≠ env.locals → h'.get? b = some o := fun b o e hb => (hs.2 b hb).trans e
  have ks : ∀ b o xs k, s.heap.get? b = some o → o.cls = .type "tuple" → o.data = .seq xs k → h'.get? b = some o := fun b o xs k e hc hd => kk b o e fun q => hseqL o xs k (by rw [← q]; exact e) hc hd
  have kv : ∀ {v x}, VR I mh.nxt s.heap v x → VR I mh.nxt h' v x := fun r => r.stay (Nat.le_refl _) (fun _ _ => rfl) ks
  refine hQ _ (S.off (s' := { s with heap := h', toks := s.toks + 1 }) kk hnL (h0_none F.above) hseqL rfl rfl) ⟨hk, hg, hb, ⟨_, F.set hn hs, fun y u h1 h2 => ?_⟩, hnL, fun y hy => ?_, ha⟩ (Ext.off kk (hX.1 hx) fun _ => ?_) ks
  ·unfold upd at h1
   by_cases hxy : y = x
   ·subst hxy; simp only [if_true, Option.some.injEq] at h1 ⊢; subst h1; exact ⟨xv, rfl, kv r⟩
   ·have : ¬ y.txt = x.txt := fun q => hxy (Vr.inj q)
    simp only [hxy, this, if_false] at h1 ⊢
    obtain ⟨v', a, b⟩ := hm y u h1 h2
    exact ⟨v', a, kv b⟩
  ·obtain ⟨c, o, h1, h2, h3, h4, h5⟩ := hc y hy
   have hcL := cell_ne F.ns h2
   obtain ⟨oc, h2, h2'⟩ := h2
   refine ⟨c, o, h1, ⟨oc, kk _ _ h2 hcL, h2'⟩, h3, h4, fun u hu => ?_⟩
   have hne : y ≠ x := fun q => by rw [q, hx] at hy; rcases hy with hy | hy <;> cases hy
   simp only [upd, hne, if_false] at hu
   obtain ⟨v', a, b⟩ := h5 u hu
   exact ⟨v', a, kv b⟩
  ·obtain ⟨oL', _, _, hL', _⟩ := hn
   show h'.get? _ ≠ _
   rw [hL']; nofun
 ·obtain ⟨c, o, h1, h2, h3, h4, h5⟩ := hc x (.inl hx)
  have hcL := cell_ne F.ns h2
  refine wpAny_storeName_cell hk hx h1 h2 fun h' hn hs => ?_
  have hseqC : NTup s.heap c := fun o xs k e _ q => by
   obtain ⟨oc, h6, h7⟩ := h2
   rw [h6] at e; cases e; rw [h7] at q; cases q
  have kk : ∀ b o, s.heap.get? b = some o → b ≠ c → h'.get? b = some o := fun b o e hb => (hs.2 b hb).trans e
  have ks : ∀ b o xs k, s.heap.get? b = some o → o.cls = .type "tuple" → o.data = .seq xs k → h'.get? b = some o := fun b o xs k e hc hd => kk b o e fun q => hseqC o xs k (by rw [← q]; exact e) hc hd
  have kv : ∀ {v x}, VR I mh.nxt s.heap v x → VR I mh.nxt h' v x := fun r => r.stay (Nat.le_refl _) (fun _ _ => rfl) ks
  refine hQ _ (S.off (s' := { s with heap := h' }) kk h3 h4 hseqC rfl rfl) ⟨hk, hg, hb, ⟨m, ⟨⟨oL, es, ep, kk _ _ hL (Ne.symm hcL), hLd, hLk⟩, (S.off (s' := { s with heap := h' }) kk h3 h4 hseqC rfl rfl).base, F.above⟩, fun y u e1 e2 => ?_⟩, hnL, fun y hy => ?_, ha⟩
   (Ext.off kk (hX.2 hx _ h1) fun _ => ?_) ks
  ·have hne : y ≠ x := fun q => by rw [q, hx] at e2; cases e2
   simp only [upd, hne, if_false] at e1
   obtain ⟨v', a, b⟩ := hm y u e1 e2
   exact ⟨v', a, kv b⟩
  ·by_cases hxy : y = x
   ·subst hxy
    refine ⟨c, some xv, h1, hn, h3, h4, fun u hu => ?_⟩
    simp only [upd, if_true, Option.some.injEq] at hu
    subst hu
    exact ⟨xv, rfl, kv r⟩
   ·obtain ⟨c', o', g1, g2, g3, g4, g5⟩ := hc y hy
    have hne : c' ≠ c := fun q => hxy (ha y x c (by rw [← q]; exact g1) h1)
    obtain ⟨oc', g2, g2'⟩ := g2
    refine ⟨c', o', g1, ⟨oc', kk _ _ g2 hne, g2'⟩, g3, g4, fun u hu => ?_⟩
    simp only [upd, hxy, if_false] at hu
    obtain ⟨v', a, b⟩ := g5 u hu
    exact ⟨v', a, kv b⟩
  ·obtain ⟨oc, h6, h7⟩ := hn
   show h'.get? _ ≠ _
   rw [h6]; nofun
noncomputable def isStore (sc : Scope) (x : Str) : Bool := sc.names.lookup x == some .local || sc.names.lookup x == some .cell
theorem isStore_or {x : Str} (h : isStore sc x = true) (hs : env.scope = sc) : env.kindOf x = some .local ∨ env.kindOf x = some .cell := by
 subst hs
 unfold isStore at h
 simp only [Bool.or_eq_true, beq_iff_eq] at h
 exact h
theorem snd_assign {x : Vr} {a : E} {ea : Expr} {y : Str} {p pos : Pos} (Ha : SndE G C n sc a ea) (hy : y = x.txt := by rfl) (hx : isStore sc y = true := by rfl)
  (hs : ∀ env, env.scope = sc → swapsWith ea (some (.Name y p)) pos.line env = pure false := by intro _ _; rfl) : SndS G C n sc (.assign x a) (.Assign [.Name y p] ea pos) := fun A env me I mh s Qm Q Er hA hsc S R hw hQ => by
 subst hy
 refine wpAny_Assign_Name (Ha A env me I mh s _ _ _ hA hsc S R hw fun v h1 xv I1 s1 hw1 e1 S1 rv => ?_) (hs env hsc)
 exact store_sound (X := FX env) S1 (R.next S e1 S1) (isStore_or hx hsc) rv ⟨fun _ => .inl rfl, fun h b hb => .inr ⟨x, h, hb⟩⟩ fun s' S' R' e' _ => hQ _ _ _ _ _ _ hw1 (e1.up.trans e') S' R' rfl
end
end Mine
end
section
namespace Mine
open PySem PySem.W PyProof.Rows PySem.Calls
variable {G : Gd}
section
variable {k : Str → Option NameKind} {x : Vr}
theorem bindL_miss {ps : List Vr} (h : x ∉ ps) : ∀ {xs : List Value} {m : Str → Option Value}, bindL k ((ps.map Vr.txt).zip xs) m x.txt = m x.txt := by
 induction ps with
 | nil => exact rfl
 | cons p ps ih =>
  intro xs m
  cases xs with
  | nil => rfl
  | cons y xs =>
   have h1 : ¬ x.txt = p.txt := fun e => h (Vr.inj e ▸ .head _)
   refine (ih fun q => h (.tail _ q)).trans ?_
   split
   ·exact if_neg h1
   ·rfl
theorem bindC_miss {ps : List Vr} (h : x ∉ ps) : ∀ {xs : List Value} {m : Str → Option Value}, bindC k ((ps.map Vr.txt).zip xs) m x.txt = m x.txt := by
 induction ps with
 | nil => exact rfl
 | cons p ps ih =>
  intro xs m
  cases xs with
  | nil => rfl
  | cons y xs =>
   have h1 : ¬ x.txt = p.txt := fun e => h (Vr.inj e ▸ .head _)
   refine (ih fun q => h (.tail _ q)).trans ?_
   split
   ·rfl
   ·exact if_neg h1
theorem bindL_hit {R : V → Value → Prop} (hk : k x.txt = some .local) {ps : List Vr} {vs : List V} {xs : List Value} {e : Env} {v : V} {m : Str → Option Value} (hn : ps.Nodup) (f : F2 R vs xs) (he : bindE ps vs = some e) (hv : e x = some v) :
  ∃ v', bindL k ((ps.map Vr.txt).zip xs) m x.txt = some v' ∧ R v v' := by
 induction f generalizing ps e m with
 | nil =>
  cases ps with
  | nil => cases he; exact none_ne hv
  | cons _ _ => exact none_ne he
 | @cons u y vs xs r rs ih =>
  cases ps with
  | nil => exact none_ne he
  | cons p ps =>
   obtain ⟨hn1, hn⟩ := List.nodup_cons.mp hn
   obtain ⟨e', he0, rfl⟩ := Option.map_eq_some_iff.mp (show (bindE ps vs).map _ = _ from he)
   by_cases hp : x = p
   ·subst hp
    cases (if_pos rfl : upd e' x u x = some u).symm.trans hv
    exact ⟨y, (bindL_miss hn1).trans ((congrFun (if_pos hk) _).trans (if_pos rfl)), r⟩
   ·exact ih hn he0 ((if_neg hp).symm.trans hv)
theorem bindC_hit {R : V → Value → Prop} (hk : k x.txt ≠ some .local) {ps : List Vr} {vs : List V} {xs : List Value} {e : Env} {v : V} {m : Str → Option Value} (hn : ps.Nodup) (f : F2 R vs xs) (he : bindE ps vs = some e) (hv : e x = some v) :
  ∃ v', bindC k ((ps.map Vr.txt).zip xs) m x.txt = some v' ∧ R v v' := by
 induction f generalizing ps e m with
 | nil =>
  cases ps with
  | nil => cases he; exact none_ne hv
  | cons _ _ => exact none_ne he
 | @cons u y vs xs r rs ih =>
  cases ps with
  | nil => exact none_ne he
  | cons p ps =>
   obtain ⟨hn1, hn⟩ := List.nodup_cons.mp hn
   obtain ⟨e', he0, rfl⟩ := Option.map_eq_some_iff.mp (show (bindE ps vs).map _ = _ from he)
   by_cases hp : x = p
   ·subst hp
    cases (if_pos rfl : upd e' x u x = some u).symm.trans hv
    exact ⟨y, (bindC_miss hn1).trans ((congrFun (if_neg hk) _).trans (if_pos rfl)), r⟩
   ·exact ih hn he0 ((if_neg hp).symm.trans hv)
theorem bindE_len {ps : List Vr} : ∀ {vs : List V} {e : Env}, bindE ps vs = some e → vs.length = ps.length := by
 induction ps with
 | nil =>
  intro vs e he
  cases vs with
  | nil => rfl
  | cons _ _ => exact none_ne he
 | cons p ps ih =>
  intro vs e he
  cases vs with
  | nil => exact none_ne he
  | cons v vs =>
   obtain ⟨e', he, _⟩ := Option.map_eq_some_iff.mp (show (bindE ps vs).map _ = _ from he)
   exact congrArg Nat.succ (ih he)
end
theorem Ext.enter {X : Addr → Prop} {I I' : Inj} {n n' : Nat} {h h1 h' : Heap} (k : ∀ b o, h.get? b = some o → h1.get? b = some o) (e : Ext X I n h1 I' n' h') (hx : ∀ b, X b → h.get? b = none) : Ext NoX I n h I' n' h' where
 le := e.le
 agree := e.agree
 new := fun l h2 h3 => by
  have q := e.new l h2 h3
  have z : ∀ b, h1.get? b = none → h.get? b = none := fun b hb => by
   cases w : h.get? b with
   | none => rfl
   | some o => rw [k b o w] at hb; cases hb
  exact ⟨z _ q.1, z _ q.2⟩
 keep := fun b o ho hb _ => e.keep b o (k b o ho) hb fun q => by rw [hx b q] at ho; cases ho
 live := fun b hb => by
  have q := e.live b hb
  cases w : h.get? b with
  | none => rfl
  | some o => rw [k b o w] at q; cases q
inductive FnAt (G : Gd) (f : Fn) (sc : Scope) (body : List Stmt) : Prop
 | mk (oc : Value) (od : Option Addr) (name qual : Str) (params : Arguments) (dV kV doc pm : Value) (an : Option Addr) (cdv ct : Value) (osl : Array (Option Value)) (dvs : List Value)
  (at_ : G.K.lookup (G.fa f) = some ⟨oc, od, .func (fnOf name qual params body sc dV kV doc pm an cdv ct), osl⟩) (code : codeIn G.K cdv qual = true)
  (dfl : F2 (fun d x => ∀ I n h, VR I n h d x) (Mine.prog f).dflts dvs)
  (binds : ∀ (s : Shared) (xs : List Value), (∀ b o, G.h₀.get? b = some o → s.heap.get? b = some o) → xs.length + (Mine.prog f).dflts.length = (Mine.prog f).params.length →
   BindsTo s (fnOf name qual params body sc dV kV doc pm an cdv ct) ⟨xs, []⟩ (((Mine.prog f).params.map Vr.txt).zip (xs ++ dvs)))
noncomputable def ScOk (sc : Scope) (ps : List Vr) : Bool :=
 sc.kind == .function && !sc.isCoroutine && !sc.isGenerator && decide ps.Nodup && ps.all (fun p => isStore sc p.txt) && sc.names.all (fun x => x.2 != .free)
theorem lookup_mem {α : Type} {l : List (Str × α)} {n : Str} {c : α} (h : l.lookup n = some c) : ∃ x ∈ l, x.2 = c := by
 induction l with
 | nil => exact none_ne h
 | cons a r ih =>
  obtain ⟨k, v⟩ := a
  rw [List.lookup_cons] at h
  cases hb : n == k with
  | true => rw [hb] at h; cases h; exact ⟨_, .head _, rfl⟩
  | false => rw [hb] at h; exact (ih h).elim fun x q => ⟨x, .tail _ q.1, q.2⟩
theorem snd_def {n : Nat} {f : Fn} {sc : Scope} {body : List Stmt} (H : SndSs G (CL Mine.prog n) n sc (Mine.prog f).body body) (hf : FnAt G f sc body) (hs : ScOk sc (Mine.prog f).params = true)
  (A : Around) (I : Inj) (mh : MH) (s : Shared) (vs : List V) (xs : List Value) (Qm : V → MH → Prop) (R : Result → Shared → Prop)
  (hA : AOkC (n + 1) A) (S : G.St I mh s) (z : G.h₀.objs.size ≤ s.heap.objs.size) (r : VRs I mh.nxt s.heap vs xs) (hw : CL Mine.prog (n + 1) f vs mh Qm)
  (hQ : ∀ v mh' x I' s', Qm v mh' → Ext NoX I mh.nxt s.heap I' mh'.nxt s'.heap → G.St I' mh' s' → VR I' mh'.nxt s'.heap v x → R (.ok (.ret x)) s') :
  codeAny G.M A (.call (.ref (G.fa f)) ⟨xs, []⟩) R s := by
 obtain ⟨oc, od, name, qual, params, dV, kV, doc, pm, an, cdv, ct, osl, dvs, hl, hcd, hd, hb⟩ := hf
 unfold ScOk at hs
 simp only [Bool.and_eq_true, beq_iff_eq, Bool.not_eq_true', decide_eq_true_eq, List.all_eq_true, bne_iff_ne, ne_eq] at hs
 obtain ⟨⟨⟨⟨⟨hk, hco⟩, hgen⟩, hnd⟩, hps⟩, hfree⟩ := hs
 obtain ⟨me, hbind, hw⟩ := hw
 unfold bindA at hbind
 have X := G.X.keeps S.base
 have rr : F2 (VR I mh.nxt s.heap) (vs ++ (Mine.prog f).dflts) (xs ++ dvs) := r.append (hd.imp fun _ _ q => q _ _ _)
 have hlen := bindE_len hbind
 rw [List.length_append] at hlen
 have hxl := F2.length r
 refine codeAny_call_function (fd := fnOf name qual params body sc dV kV doc pm an cdv ct) (body := body) (by have := hA.2.1; lia) (X _ _ hl) rfl hco hgen rfl (codeRec_of X hcd) (hb s xs S.base (by lia) _ _ _ _ ?_)
 have hbk : ∀ y ∈ (((Mine.prog f).params.map Vr.txt).zip (xs ++ dvs)), sc.names.lookup y.1 = some .local ∨ (sc.names.lookup y.1 = some .cell ∧ ((cellsFrom (s.heap.objs.size + 1) sc.names []).lookup y.1).isSome = true) := fun y hy => by
  obtain ⟨y1, y2⟩ := y
  have h1 := (List.of_mem_zip hy).1
  obtain ⟨p, hp, rfl⟩ := List.mem_map.mp h1
  have h2 := hps p hp
  unfold isStore at h2
  simp only [Bool.or_eq_true, beq_iff_eq] at h2
  exact h2.imp id fun q => ⟨q, cellsFrom_some _ _ _ (.inl q)⟩
 refine wpAny_newFunctionEnv_cells hk hbk fun env henv s₁ C₁ => ?_
 have hkeep := C₁.toInCall.keep
 have hns := C₁.toInCall.ns
 have hfr := C₁.toInCall.fresh
 obtain ⟨h₁, tk, rfl⟩ := C₁.toInCall.same
 dsimp only at hkeep hns hfr
 have e1 : env.scope = sc := by rw [henv]; rfl
 have e2 : env.globals = mainGlobals := by rw [henv]; rfl
 have e3 : env.builtins = builtinsNs := by rw [henv]; rfl
 have e4 : env.cells = cellsFrom (s.heap.objs.size + 1) sc.names [] := by rw [henv]; rfl
 have e5 : env.locals = s.heap.objs.size := by rw [henv]; rfl
 refine ⟨(G.T.nolimit.keeps S.base).keeps hkeep, codeAny_func ?_⟩
 have S1 : G.St I mh { s with heap := h₁, toks := tk } := S.keep hkeep rfl rfl
 have dead : ∀ b, s.heap.objs.size ≤ b → ¬ Own I mh.nxt b := fun b hb q => St.ownLive S q (get_size _ _ hb)
 have r1 : F2 (VR I mh.nxt h₁) (vs ++ (Mine.prog f).dflts) (xs ++ dvs) := rr.imp fun _ _ q => q.stay (Nat.le_refl _) (fun _ _ => rfl) fun b o _ _ e _ _ => hkeep b o e
 have hcl : ∀ {x : Str} {c : Addr}, env.cells.lookup x = some c → s.heap.objs.size ≤ c := fun {x c} hc => by
  have := C₁.above x c (mem_of_lookup hc)
  rw [e5] at this
  exact Nat.le_of_lt this
 have R1 : EnvR G env me I mh.nxt h₁ := by
  refine ⟨by rw [e1]; exact hk, e2, e3, ⟨_, ⟨hns, fun b o e => hkeep b o (S.base b o e), by rw [e5]; exact z⟩, fun x v h1 h2 => bindL_hit h2 hnd r1 hbind h1⟩, dead _ (by rw [e5]; exact Nat.le_refl _), fun x hx => ?_, fun x y c hx hy => ?_⟩
  ·have hxc : env.kindOf x.txt = some .cell := by
    rcases hx with hx | hx
    ·exact hx
    ·exfalso
     have hx' : sc.names.lookup x.txt = some .free := by rw [← e1]; exact hx
     obtain ⟨y, hy, hz⟩ := lookup_mem hx'
     exact hfree y hy hz
   have hx' : sc.names.lookup x.txt = some .cell := by rw [← e1]; exact hxc
   have hc := cellsFrom_some (x := x.txt) sc.names (s.heap.objs.size + 1) [] (.inl hx')
   rw [← e4] at hc
   obtain ⟨c, hc⟩ := Option.isSome_iff_exists.mp hc
   refine ⟨c, _, hc, C₁.cell _ _ hc, dead _ (hcl hc), h0_none (Nat.le_trans z (hcl hc)), fun v hv => bindC_hit (by rw [hxc]; nofun) hnd r1 hbind hv⟩
  ·exact Vr.inj (name_of_addr C₁.apart (mem_of_lookup hx) (mem_of_lookup hy))
 refine H (A.deeper env) env me I mh _ _ _ _ (hA.deeper env) e1 S1 R1 hw fun fl me' mh' fl' I' s' hp e S' R' rl => ?_
 have ex : Ext NoX I mh.nxt s.heap I' mh'.nxt s'.heap := e.enter hkeep fun b hb => by
  rcases hb with rfl | ⟨x, _, hb⟩
  ·exact get_size _ _ (by rw [e5]; exact Nat.le_refl _)
  ·exact get_size _ _ (hcl hb)
 cases fl with
 | next => cases rl; exact hQ _ _ _ _ _ hp ex S' rfl
 | cont => exact hp.elim
 | ret v => obtain ⟨x, rfl, rl⟩ := rl; exact hQ _ _ _ _ _ hp ex S' rl
end Mine
end
section
namespace Mine
open PySem PySem.W PyProof.Rows PySem.Calls
variable {G : Gd} {C : CS} {n : Nat} {sc : Scope}
structure Side (G : Gd) (I : Inj) (k : Nat) (h h0 : Heap) (wr : List Addr) : Prop where
 dead : ∀ b ∈ wr, h0.get? b = none
 own : ∀ b ∈ wr, ¬ Own I k b
 base : ∀ b ∈ wr, G.h₀.get? b = none
 tup : ∀ b ∈ wr, NTup h b
section
variable {I I1 : Inj} {mh mh1 : MH} {s s0 s1 s2 : Shared} {A : Around} {Er : Value → Shared → Prop} {env : PySem.Env} {me me1 : Env} {X : Addr → Prop} {wr : List Addr}
theorem St.side (S : G.St I1 mh1 s1) (W : ∀ b ∈ wr, ¬ Own I1 mh1.nxt b ∧ G.h₀.get? b = none ∧ NTup s1.heap b) (k : ∀ b o, s1.heap.get? b = some o → b ∉ wr → s2.heap.get? b = some o) (hg : s2.gens = s1.gens) (ho : s2.os = s1.os) : G.St I1 mh1 s2 where
 base := fun b o e => k _ _ (S.base b o e) fun q => by rw [(W b q).2.1] at e; cases e
 fresh := S.fresh
 gens := hg.trans S.gens
 os := ho.trans S.os
 top := S.top
 obj := fun l hl => let ⟨o, h1, h2⟩ := S.obj l hl; ⟨o, h1, h2.stay (Nat.le_refl _) (fun _ _ => rfl) (fun b o xs j e hc hd => k b o e fun q => (W b q).2.2 o xs j e hc hd) rfl rfl
  (fun o e => k _ o e fun q => (W _ q).1 ⟨l, hl, .inl rfl⟩) (fun o e => k _ o e fun q => (W _ q).1 ⟨l, hl, .inr rfl⟩)⟩
 inj := S.inj
 olds := S.olds
theorem VR.side {k : Nat} {h h' : Heap} (W : ∀ b ∈ wr, NTup h b) (kk : ∀ b o, h.get? b = some o → b ∉ wr → h'.get? b = some o) {v : V} {x : Value} (r : VR I k h v x) : VR I k h' v x :=
 r.stay (Nat.le_refl _) (fun _ _ => rfl) fun b o xs j e hc hd => kk b o e fun q => W b q o xs j e hc hd
theorem EnvR.side {k : Nat} {h h' : Heap} (R : EnvR G env me I k h) (base : ∀ b o, G.h₀.get? b = some o → h'.get? b = some o) (W : ∀ b ∈ wr, NTup h b) (hL : env.locals ∉ wr) (hC : ∀ (x : Vr) c, (env.kindOf x.txt = some .cell ∨ env.kindOf x.txt = some .free) → env.cells.lookup x.txt = some c → c ∉ wr)
  (kk : ∀ b o, h.get? b = some o → b ∉ wr → h'.get? b = some o) : EnvR G env me I k h' := by
 obtain ⟨hk, hg, hb, ⟨m, F, hm⟩, hnL, hc, ha⟩ := R
 obtain ⟨oL, es, ep, hL', hr⟩ := F.ns
 refine ⟨hk, hg, hb, ⟨m, ⟨⟨oL, es, ep, kk _ _ hL' hL, hr⟩, base, F.above⟩, fun x v h1 h2 => ?_⟩, hnL, fun x hx => ?_, ha⟩
 ·obtain ⟨v', a, b⟩ := hm x v h1 h2
  exact ⟨v', a, b.side W kk⟩
 ·obtain ⟨c, o, h1, ⟨oc, h2, h3⟩, h4, h5, h6⟩ := hc x hx
  refine ⟨c, o, h1, ⟨oc, kk _ _ h2 (hC x c hx h1), h3⟩, h4, h5, fun v hv => ?_⟩
  obtain ⟨v', a, b⟩ := h6 v hv
  exact ⟨v', a, b.side W kk⟩
theorem Ext.side {k k1 : Nat} {h0 h h' : Heap} (e : Ext X I k h0 I1 k1 h) (dead : ∀ b ∈ wr, h0.get? b = none) (kk : ∀ b o, h.get? b = some o → b ∉ wr → h'.get? b = some o) : Ext X I k h0 I1 k1 h' where
 le := e.le
 agree := e.agree
 new := e.new
 keep := fun b o ho hb hx => kk b o (e.keep b o ho hb hx) fun q => by rw [dead b q] at ho; cases ho
 live := fun b hb => by
  by_cases q : b ∈ wr
  ·exact dead b q
  ·refine e.live b ?_
   cases w : h.get? b with
   | none => rfl
   | some o => rw [kk b o w q] at hb; cases hb
structure At (G : Gd) (X : Addr → Prop) (env : PySem.Env) (I : Inj) (mh : MH) (s0 : Shared) (me1 : Env) (I1 : Inj) (mh1 : MH) (s1 : Shared) (wr : List Addr) : Prop where
 S : G.St I1 mh1 s1
 R : EnvR G env me1 I1 mh1.nxt s1.heap
 e : Ext X I mh.nxt s0.heap I1 mh1.nxt s1.heap
 W : Side G I1 mh1.nxt s1.heap s0.heap wr
 hL : env.locals ∉ wr
 hC : ∀ (x : Vr) c, (env.kindOf x.txt = some .cell ∨ env.kindOf x.txt = some .free) → env.cells.lookup x.txt = some c → c ∉ wr
 live : ∀ b ∈ wr, s1.heap.get? b ≠ none
theorem At.side (a : At G X env I mh s0 me1 I1 mh1 s1 wr) (k : ∀ b o, s1.heap.get? b = some o → b ∉ wr → s2.heap.get? b = some o) (hg : s2.gens = s1.gens) (ho : s2.os = s1.os) (ht : ∀ b ∈ wr, NTup s2.heap b ∧ s2.heap.get? b ≠ none) :
  At G X env I mh s0 me1 I1 mh1 s2 wr := by
 have S2 := a.S.side (s2 := s2) (fun b hb => ⟨a.W.own b hb, a.W.base b hb, a.W.tup b hb⟩) k hg ho
 exact ⟨S2, a.R.side S2.base a.W.tup a.hL a.hC k, a.e.side a.W.dead k, ⟨a.W.dead, a.W.own, a.W.base, fun b hb => (ht b hb).1⟩, a.hL, a.hC, fun b hb => (ht b hb).2⟩
theorem At.step {Y : Addr → Prop} {me2 : Env} {I2 : Inj} {mh2 : MH} (a : At G X env I mh s0 me1 I1 mh1 s1 wr) (e : Ext Y I1 mh1.nxt s1.heap I2 mh2.nxt s2.heap) (hY : ∀ b, Y b → X b) (hYw : ∀ b ∈ wr, ¬ Y b) (S : G.St I2 mh2 s2) (R : EnvR G env me2 I2 mh2.nxt s2.heap) :
  At G X env I mh s0 me2 I2 mh2 s2 wr := by
 have kw : ∀ b ∈ wr, ∀ o, s1.heap.get? b = some o → s2.heap.get? b = some o := fun b hb o ho => e.keep b o ho (a.W.own b hb) (hYw b hb)
 refine ⟨S, R, a.e.trans (e.weaken hY), ⟨a.W.dead, fun b hb => ?_, a.W.base, fun b hb o xs k ho => ?_⟩, a.hL, a.hC, fun b hb => ?_⟩
 ·cases q : s1.heap.get? b with
  | none => exact absurd q (a.live b hb)
  | some o => exact e.notOwn (a.W.own b hb) q
 ·cases q : s1.heap.get? b with
  | none => exact absurd q (a.live b hb)
  | some o' =>
   have := kw b hb o' q
   rw [ho] at this; cases this
   exact a.W.tup b hb o xs k q
 ·cases q : s1.heap.get? b with
  | none => exact absurd q (a.live b hb)
  | some o => rw [kw b hb o q]; nofun
theorem At.step_keep {Y : Addr → Prop} {I2 : Inj} {mh2 : MH} (a : At G X env I mh s0 me1 I1 mh1 s1 wr) (e : Ext Y I1 mh1.nxt s1.heap I2 mh2.nxt s2.heap) (hYw : ∀ b ∈ wr, ¬ Y b) : ∀ b ∈ wr, ∀ o, s1.heap.get? b = some o → s2.heap.get? b = some o :=
 fun b hb o ho => e.keep b o ho (a.W.own b hb) (hYw b hb)
noncomputable def IterR (I : Inj) (k : Nat) (h : Heap) (src : Src) (i : Nat) (wr : List Addr) (it : Value) : Prop :=
 match src with
 | .seq (.w (.loc l)) => l < k ∧ ∃ r, wr = [r] ∧ it = .ref r ∧ h.IsListIter r (I.a l) i
 | .seq (.tup ws) => ∃ r t items c, wr = [r] ∧ it = .ref r ∧ IsT h t items.toArray c ∧ F2 (WR I k) ws items ∧ h.IsTupleIter r t i
 | .range m => ∃ r, wr = [r] ∧ it = .ref r ∧ IsRangeIter h r (i : Int) ((if 0 < m then m else 0) - i) 1
 | .enum (.w (.loc l)) => l < k ∧ ∃ e r old, wr = [e, r] ∧ it = .ref e ∧ e ≠ r ∧ IsEnum h e r (i : Int) old ∧ h.IsListIter r (I.a l) i
 | _ => False
theorem IterR.stay {k k' : Nat} {I' : Inj} {h h' : Heap} {src : Src} {i : Nat} {it : Value} (r : IterR I k h src i wr it) (hk : k ≤ k') (ha : ∀ l, l < k → I'.a l = I.a l) (hw : ∀ b ∈ wr, ∀ o, h.get? b = some o → h'.get? b = some o)
  (ht : ∀ b o xs j, h.get? b = some o → o.cls = .type "tuple" → o.data = .seq xs j → h'.get? b = some o) : IterR I' k' h' src i wr it := by
 unfold IterR at r ⊢
 split at r
 ·obtain ⟨l1, r, rfl, rfl, o, h1, h2⟩ := r
  exact ⟨Nat.lt_of_lt_of_le l1 hk, r, rfl, rfl, o, hw r (.head _) o h1, by rw [ha _ l1]; exact h2⟩
 ·obtain ⟨r, t, items, c, rfl, rfl, h1, h2, o, h3, h4⟩ := r
  exact ⟨r, t, items, c, rfl, rfl, ht t _ _ _ h1 rfl rfl, h2.imp fun _ _ q => WR.mono hk ha q, o, hw r (.head _) o h3, h4⟩
 ·obtain ⟨r, rfl, rfl, h1⟩ := r
  exact ⟨r, rfl, rfl, hw r (.head _) _ h1⟩
 ·obtain ⟨l1, e, r, old, rfl, rfl, hne, h1, o, h2, h3⟩ := r
  exact ⟨Nat.lt_of_lt_of_le l1 hk, e, r, old, rfl, rfl, hne, hw e (.head _) _ h1, o, hw r (.tail _ (.head _)) o h2, by rw [ha _ l1]; exact h3⟩
 ·exact r
inductive NamesOf : List Vr → List Expr → Prop
 | nil : NamesOf [] []
 | cons {x xs p es} : NamesOf xs es → NamesOf (x :: xs) (.Name x.txt p :: es)
inductive Tgt : List Vr → Expr → Prop
 | one {x p} : Tgt [x] (.Name x.txt p)
 | many {x y xs es k p} : NamesOf (x :: y :: xs) es → Tgt (x :: y :: xs) (.Tuple es k p)
theorem NamesOf.each {xs : List Vr} {es : List Expr} (h : NamesOf xs es) : (assignEach es env).length = xs.length ∧ (assignEach es env).findIdx? (·.1) = none := by
 induction h with
 | nil => exact ⟨rfl, rfl⟩
 | cons _ ih =>
  rename_i x xs p es _
  have e : assignEach (Expr.Name x.txt p :: es) env = (false, assign (.Name x.txt p) env) :: assignEach es env := rfl
  rw [e]
  refine ⟨by simp [ih.1], ?_⟩
  simp [List.findIdx?_cons, ih.2]
noncomputable def TX (env : PySem.Env) (X : Addr → Prop) (x : Vr) : Prop := (env.kindOf x.txt = some .local → X env.locals) ∧ (env.kindOf x.txt = some .cell → ∀ b, env.cells.lookup x.txt = some b → X b)
theorem names_sound {Q : Unit → Shared → Prop} {xs : List Vr} {es : List Expr} {ws : List W} {vals : List Value} {me me' : Env} {s : Shared} (hN : NamesOf xs es) : updW me xs ws = some me' → F2 (WR I mh.nxt) ws vals → (∀ x ∈ xs, isStore env.scope x.txt = true ∧ TX env X x) →
  G.St I mh s → EnvR G env me I mh.nxt s.heap →
  (∀ s', G.St I mh s' → EnvR G env me' I mh.nxt s'.heap → Ext X I mh.nxt s.heap I mh.nxt s'.heap → (∀ b o xs k, s.heap.get? b = some o → o.cls = .type "tuple" → o.data = .seq xs k → s'.heap.get? b = some o) → Q () s') → wpAny G.M A (assignInOrder ((assignEach es env).map (·.2)) vals) Q Er s := by
 induction hN generalizing ws vals me s with
 | nil =>
  intro hu hf _ S R hQ
  cases ws with
  | nil => cases hf; cases hu; exact wpAny_assignInOrder_none (hQ s S R .refl fun _ _ _ _ e _ _ => e)
  | cons _ _ => exact none_ne hu
 | @cons x xs p es h ih =>
  intro hu hf hx S R hQ
  cases ws with
  | nil => exact none_ne hu
  | cons w ws =>
   cases hf with
   | cons r rs =>
   have hx0 := hx x (.head _)
   refine wpAny_assignInOrder_more (wpAny_assign_Name (store_sound (X := X) (v := .w w) S R (isStore_or hx0.1 rfl) r hx0.2 fun s' S' R' e' kt => ?_))
   exact ih hu rs (fun z hz => hx z (.tail _ hz)) S' R' fun s'' S'' R'' e'' kt' => hQ s'' S'' R'' (e'.trans e'') fun b o xs k e hc hd => kt' b o xs k (kt b o xs k e hc hd) hc hd
theorem tgt_sound {xs : List Vr} {t : Expr} {v : V} {x : Value} {me me' : Env} {Q : Unit → Shared → Prop} (hh : A.handled = none) (ht : Tgt xs t) (hb : bindT me xs v = some me') (hx : ∀ x ∈ xs, isStore env.scope x.txt = true ∧ TX env X x)
  (S : G.St I mh s) (R : EnvR G env me I mh.nxt s.heap) (r : VR I mh.nxt s.heap v x) (hQ : ∀ s', G.St I mh s' → EnvR G env me' I mh.nxt s'.heap → Ext X I mh.nxt s.heap I mh.nxt s'.heap → (∀ b o xs k, s.heap.get? b = some o → o.cls = .type "tuple" → o.data = .seq xs k → s'.heap.get? b = some o) → Q () s') : wpAny G.M A (assign t env x) Q Er s := by
 cases ht with
 | one =>
  rename_i y p
  cases hb
  have hx0 := hx y (.head _)
  exact wpAny_assign_Name (store_sound (X := X) S R (isStore_or hx0.1 rfl) r hx0.2 fun s' S' R' e' kt => hQ s' S' R' e' kt)
 | many h =>
  rename_i y z ys es k p
  cases v with
  | w u => exact none_ne hb
  | old u => exact none_ne hb
  | tup ws =>
   obtain ⟨a, items, c, rfl, hT, hf⟩ := r
   have hl : ∀ {xs : List Vr} {ws : List W} {me me' : Env}, updW me xs ws = some me' → xs.length = ws.length := by
    intro xs
    induction xs with
    | nil => intro ws me me' h; cases ws with
     | nil => rfl
     | cons _ _ => exact none_ne h
    | cons x xs ih => intro ws me me' h; cases ws with
     | nil => exact none_ne h
     | cons w ws => exact congrArg Nat.succ (ih (me := upd me x (.w w)) h)
   have hlen : (y :: z :: ys).length = items.length := (hl hb).trans hf.length
   refine wpAny_assign_Tuple (items := items.toArray) hh ⟨_, hT, rfl, _, rfl⟩ (by rw [h.each.1, hlen]; simp) h.each.2 fun h' hs => ?_
   have kk : ∀ b o, s.heap.get? b = some o → h'.get? b = some o := fun b o e => hs b o (Nat.ne_of_lt (Heap.lt_size e)) e
   have S' : G.St I mh { s with heap := h' } := S.keep kk rfl rfl
   exact names_sound h hb hf hx S' (R.next S (Ext.ofKeep kk) S') fun s'' S'' R'' e'' kt => hQ s'' S'' R'' ((Ext.ofKeep kk).trans e'') fun b o xs k e hc hd => kt b o xs k (kk b o e) hc hd
end
end Mine
end
section
namespace Mine
open PySem PySem.W PyProof.Rows PySem.Calls
variable {G : Gd} {C : CS} {n : Nat} {sc : Scope}
section
variable {I I1 : Inj} {mh mh1 : MH} {s s0 s1 s2 : Shared} {A : Around} {Er : Value → Shared → Prop} {env : PySem.Env} {me me1 : Env} {X : Addr → Prop} {wr wi : List Addr}
theorem ntup_of {h : Heap} {b : Addr} {o : Obj} (e : h.get? b = some o) (hc : o.cls ≠ .type "tuple") : NTup h b := fun o' xs k e' hc' => by rw [e] at e'; cases e'; exact absurd hc' hc
theorem bindT_w {e e' : Env} {xs : List Vr} {w : W} (h : bindT e xs (.w w) = some e') : ∃ x, xs = [x] ∧ e' = upd e x (.w w) := by
 cases xs with
 | nil => exact none_ne h
 | cons x xs =>
  cases xs with
  | nil => exact ⟨x, rfl, (Option.some.inj h).symm⟩
  | cons _ _ => exact none_ne h
theorem items_loc {mh : MH} {l : Nat} {vs : List V} (h : items mh (.w (.loc l)) = some vs) : mh.get l = some (.list vs) := by
 have h : (match mh.get l with | some (.list vs) => some vs | _ => none) = some vs := h
 split at h
 ·rename_i e; rw [e, Option.some.inj h]
 ·exact none_ne h
theorem tgt_one {x : Vr} {t : Expr} (h : Tgt [x] t) : ∃ p, t = .Name x.txt p := by cases h; exact ⟨_, rfl⟩
theorem At.turn (a : At G X env I mh s0 me1 I1 mh1 s1 wr) (hw : ∀ b ∈ wi, b ∈ wr) {h' : Heap} {tk : Nat} (k : ∀ b o, s1.heap.get? b = some o → b ∉ wi → h'.get? b = some o) (hl : ∀ b ∈ wi, ∃ o, h'.get? b = some o ∧ o.cls ≠ .type "tuple") :
  At G X env I mh s0 me1 I1 mh1 { s1 with heap := h', toks := tk } wr := by
 refine a.side (fun b o e hb => k b o e fun q => hb (hw b q)) rfl rfl fun b hb => ?_
 by_cases hbi : b ∈ wi
 ·obtain ⟨o, h1, h2⟩ := hl b hbi
  exact ⟨ntup_of h1 h2, by show h'.get? b ≠ none; rw [h1]; nofun⟩
 ·cases q : s1.heap.get? b with
  | none => exact absurd q (a.live b hb)
  | some o =>
   have z := k b o q hbi
   refine ⟨fun o' xs j e hc hd => ?_, by show h'.get? b ≠ none; rw [z]; nofun⟩
   rw [show h'.get? b = some o from z] at e; cases e
   exact a.W.tup b hb o xs j q hc hd
noncomputable def TFin (s1 : Shared) (wi : List Addr) (done : Prop) (QE : Shared → Prop) : Prop := ∀ h', (∀ b o, s1.heap.get? b = some o → b ∉ wi → h'.get? b = some o) → done → QE { s1 with heap := h' }
noncomputable def TItem (G : Gd) (A : Around) (env : PySem.Env) (me1 : Env) (I1 : Inj) (mh1 : MH) (s1 : Shared) (xs : List Vr) (t : Expr) (src : Src) (i : Nat) (K : Env → Prop) (QG : Shared → Prop) (Er : Value → Shared → Prop) (wi : List Addr) (it : Value) : Prop :=
 ∀ (h' : Heap) (tk : Nat) (v : V) (x : Value) (e' : Env), (∀ b o, s1.heap.get? b = some o → b ∉ wi → h'.get? b = some o) → (∀ b ∈ wi, ∃ o, h'.get? b = some o ∧ o.cls ≠ .type "tuple") → IterR I1 mh1.nxt h' src (i + 1) wi it →
   bindT me1 xs v = some e' → VR I1 mh1.nxt s1.heap v x → K e' → wpAny G.M A (assign t env x) (fun _ s₃ => QG s₃) Er { s1 with heap := h', toks := tk }
noncomputable def TGoal (G : Gd) (A : Around) (env : PySem.Env) (t : Expr) (QE QG : Shared → Prop) (Er : Value → Shared → Prop) (it : Value) (s1 : Shared) : Prop :=
 wpAny G.M A (pyNext it) (fun r s₁ => match r with
   | none => QE s₁
   | some v => wpAny G.M A (letOwnedTupleGo t it v) (fun _ s₂ => wpAny G.M A (assign t env v) (fun _ s₃ => QG s₃) Er s₂) Er s₁) Er s1
theorem turn_fin {done : Prop} {QE : Shared → Prop} (a : At G X env I mh s0 me1 I1 mh1 s1 wr) (hw : ∀ b ∈ wi, b ∈ wr)
  (hE : ∀ s', done → At G X env I mh s0 me1 I1 mh1 s' [] → (∀ b o, s1.heap.get? b = some o → b ∉ wi → s'.heap.get? b = some o) → QE s') : TFin s1 wi done QE := fun h' k hd => by
 have W := a.W
 have S2 := a.S.side (wr := wi) (s2 := { s1 with heap := h' }) (fun b hb => ⟨W.own b (hw b hb), W.base b (hw b hb), W.tup b (hw b hb)⟩) k rfl rfl
 exact hE _ hd ⟨S2, a.R.side (wr := wi) S2.base (fun b hb => W.tup b (hw b hb)) (fun q => a.hL (hw _ q)) (fun x c hk hc q => a.hC x c hk hc (hw _ q)) k, a.e.side (wr := wi) (fun b hb => W.dead b (hw b hb)) k, ⟨fun _ h => absurd h List.not_mem_nil, fun _ h => absurd h List.not_mem_nil, fun _ h => absurd h List.not_mem_nil, fun _ h => absurd h List.not_mem_nil⟩, List.not_mem_nil, fun _ _ _ _ => List.not_mem_nil, fun _ h => absurd h List.not_mem_nil⟩ k
theorem turn_item {src : Src} {i : Nat} {it : Value} {xs : List Vr} {t : Expr} {K : Env → Prop} {QG : Shared → Prop} (hh : A.handled = none) (a : At G X env I mh s0 me1 I1 mh1 s1 wr) (hw : ∀ b ∈ wi, b ∈ wr)
  (ht : Tgt xs t) (hx : ∀ x ∈ xs, isStore env.scope x.txt = true ∧ TX env X x) (hXw : ∀ b ∈ wr, ¬ X b)
  (hG : ∀ e' s', K e' → At G X env I mh s0 e' I1 mh1 s' wr → IterR I1 mh1.nxt s'.heap src (i + 1) wi it → (∀ b ∈ wr, b ∉ wi → ∀ o, s1.heap.get? b = some o → s'.heap.get? b = some o) → (∀ b o xs k, s1.heap.get? b = some o → o.cls = .type "tuple" → o.data = .seq xs k → s'.heap.get? b = some o) → QG s') :
  TItem G A env me1 I1 mh1 s1 xs t src i K QG Er wi it := fun h' tk v x e' k hl hi' hb r hk => by
 have a' := a.turn (tk := tk) hw k hl
 have r' : VR I1 mh1.nxt h' v x := r.side (wr := wi) (fun b hb => a.W.tup b (hw b hb)) k
 refine tgt_sound (X := X) hh ht hb hx a'.S a'.R r' fun s' S' R' e2 ktup => ?_
 exact hG e' s' hk (a'.step e2 (fun _ h => h) hXw S' R') (hi'.stay (Nat.le_refl _) (fun _ _ => rfl) (fun b hb => a'.step_keep e2 hXw b (hw b hb)) ktup) (fun b hb hbi o e => a'.step_keep e2 hXw b hb o (k b o e hbi)) fun b o xs j e hc hd => ktup b o xs j (k b o e fun q => a.W.tup b (hw b q) o xs j e hc hd) hc hd
theorem turn_enum {l i : Nat} {e r : Addr} {old : Value} {xs : List Vr} {t : Expr} {done : Prop} {K : Env → Prop} {QE QG : Shared → Prop} (hh : A.handled = none) (a : At G X env I mh s0 me1 I1 mh1 s1 wr) (l1 : l < mh1.nxt) (hne : e ≠ r) (he : IsEnum s1.heap e r (i : Int) old) (hit : s1.heap.IsListIter r (I1.a l) i)
  (hw : ∀ b ∈ [e, r], b ∈ wr) (ht : Tgt xs t) (hx : ∀ x ∈ xs, isStore env.scope x.txt = true ∧ TX env X x) (hXw : ∀ b ∈ wr, ¬ X b) (hs : (Src.enum (.w (.loc l))).at me1 xs mh1 i done K) (fin : TFin s1 [e, r] done QE)
  (hG : ∀ e' s', K e' → At G X env I mh s0 e' I1 mh1 s' wr → IterR I1 mh1.nxt s'.heap (.enum (.w (.loc l))) (i + 1) [e, r] (.ref e) → (∀ b ∈ wr, b ∉ [e, r] → ∀ o, s1.heap.get? b = some o → s'.heap.get? b = some o) → (∀ b o xs k, s1.heap.get? b = some o → o.cls = .type "tuple" → o.data = .seq xs k → s'.heap.get? b = some o) → QG s') :
  TGoal G A env t QE QG Er (.ref e) s1 := by
 obtain ⟨l', vs, ⟨hv, hm⟩, hs⟩ := hs
 cases hv
 obtain ⟨_, ys, k, hL, hf⟩ := a.S.list l1 hm
 have hLi := hL.isList
 rcases hs with ⟨hle, hd⟩ | ⟨x, y, z, ⟨hx1, rfl, hyz, hroom⟩, hk⟩
 ·exact wpAny_pyNext_enum_end hh he hit hLi (by have := hf.length; simp; lia) fun h' hs' => fin h' (fun b o e hb => hs' b o (fun q => hb (q ▸ .tail _ (.head _))) e) hd
 ·obtain ⟨v, hv, rv⟩ := hf.get hx1
  refine wpAny_pyNext_enum_item he hit hLi (by simpa using hv) hne fun h' heo hit' htup hsz hkeep => ?_
  cases ht with
  | many hn =>
  refine wpAny_letOwnedTupleGo_enum heo fun h2 he2 hs2 => ?_
  have hz1 : e ≠ s1.heap.objs.size := Nat.ne_of_lt (Heap.lt_size he)
  have htup2 : h2.get? s1.heap.objs.size = some { cls := .type "tuple", data := .seq #[.int i s1.toks, v] } := (hs2.2 _ (Ne.symm hz1)).trans htup
  refine wpAny_assign_Tuple (items := #[.int i s1.toks, v]) hh ⟨_, htup2, rfl, _, rfl⟩ (by rw [hn.each.1]; rfl) hn.each.2 fun h3 hs3 => ?_
  have k23 : ∀ b o, h2.get? b = some o → h3.get? b = some o := fun b o q => hs3 b o (Nat.ne_of_lt (Heap.lt_size q)) q
  have k : ∀ b o, s1.heap.get? b = some o → b ∉ [e, r] → h3.get? b = some o := fun b o q hb =>
   k23 b o ((hs2.2 b fun z => hb (z ▸ .head _)).trans (hkeep b o (fun z => hb (z ▸ .head _)) (fun z => hb (z ▸ .tail _ (.head _))) q))
  obtain ⟨oi, i1, i2, i3⟩ := hit'
  have i1' : h3.get? r = some oi := k23 _ _ ((hs2.2 r (Ne.symm hne)).trans i1)
  have hIt : IterR I1 mh1.nxt h3 (.enum (.w (.loc l))) (i + 1) [e, r] (.ref e) := ⟨l1, e, r, v, rfl, rfl, hne, k23 _ _ he2, oi, i1', i2, i3⟩
  have a' := a.turn (tk := s1.toks + 1) hw k fun b hb => by
   rcases List.mem_cons.mp hb with rfl | hb
   ·exact ⟨_, k23 _ _ he2, show (Value.type "enumerate") ≠ .type "tuple" by decide⟩
   ·rcases List.mem_singleton.mp hb with rfl
    exact ⟨oi, i1', by rw [i2]; decide⟩
  have rv3 : VR I1 mh1.nxt h3 x v := rv.side (wr := [e, r]) (fun b hb => a.W.tup b (hw b hb)) k
  have hy0 := hx y (.head _)
  have hz0 := hx z (.tail _ (.head _))
  cases hn with
  | cons hn => cases hn with
  | cons hn => cases hn with
  | nil =>
  refine wpAny_assignInOrder_more (wpAny_assign_Name (store_sound (X := X) (v := .int i) a'.S a'.R (isStore_or hy0.1 rfl) ⟨_, rfl⟩ hy0.2 fun s4 S4 R4 e4 kt4 => ?_))
  have rv4 : VR I1 mh1.nxt s4.heap x v := rv3.stay (Nat.le_refl _) (fun _ _ => rfl) kt4
  refine wpAny_assignInOrder_more (wpAny_assign_Name (store_sound (X := X) S4 R4 (isStore_or hz0.1 rfl) rv4 hz0.2 fun s5 S5 R5 e5 kt5 => wpAny_assignInOrder_none ?_))
  have e45 := e4.trans e5
  have ktup : ∀ b o xs j, h3.get? b = some o → o.cls = .type "tuple" → o.data = .seq xs j → s5.heap.get? b = some o := fun b o xs j e hc hd => kt5 b o xs j (kt4 b o xs j e hc hd) hc hd
  exact hG _ s5 hk (a'.step e45 (fun _ h => h) hXw S5 R5) (hIt.stay (Nat.le_refl _) (fun _ _ => rfl) (fun b hb => a'.step_keep e45 hXw b (hw b hb)) ktup) (fun b hb hbi o e => a'.step_keep e45 hXw b hb o (k b o e hbi)) fun b o xs j e hc hd => ktup b o xs j (k b o e fun q => a.W.tup b (hw b q) o xs j e hc hd) hc hd
theorem turn_list {l i : Nat} {r : Addr} {xs : List Vr} {t : Expr} {done : Prop} {K : Env → Prop} {QE QG : Shared → Prop} (hh : A.handled = none) (S : G.St I1 mh1 s1) (l1 : l < mh1.nxt) (hit : s1.heap.IsListIter r (I1.a l) i)
  (ht : Tgt xs t) (hs : (Src.seq (.w (.loc l))).at me1 xs mh1 i done K) (fin : TFin s1 [r] done QE) (item : TItem G A env me1 I1 mh1 s1 xs t (.seq (.w (.loc l))) i K QG Er [r] (.ref r)) : TGoal G A env t QE QG Er (.ref r) s1 := by
 obtain ⟨vs, hv, hs⟩ := hs
 obtain hm := items_loc hv
 obtain ⟨_, ys, k, hL, hf⟩ := S.list l1 hm
 have hLi := hL.isList
 rcases hs with ⟨hle, hd⟩ | ⟨x, e', ⟨hx1, hb⟩, hk⟩
 ·exact wpAny_pyNext_list_end hh hit hLi (by have := hf.length; simp; lia) fun h' hs' => fin h' (fun b o e hb => hs' b o (fun q => hb (q ▸ .head _)) e) hd
 ·obtain ⟨y, hy, ry⟩ := hf.get hx1
  refine wpAny_pyNext_list_item hit hLi (by simpa using hy) fun h' hit' hs' => ?_
  have go := item h' s1.toks x y e' (fun b o e hb => (hs'.2 b fun q => hb (q ▸ .head _)).trans e) (fun b hb => by
    rcases List.mem_singleton.mp hb with rfl
    obtain ⟨o, h1, h2, _⟩ := hit'
    exact ⟨o, h1, by rw [h2]; decide⟩) ⟨l1, r, rfl, rfl, hit'⟩ hb ry hk
  cases ht with
  | one => exact wpAny_pure go
  | many hn =>
   cases x with
   | old u => exact none_ne hb
   | w u => obtain ⟨_, hq, _⟩ := bindT_w hb; cases hq
   | tup ws =>
    obtain ⟨ta, _, _, rfl, _⟩ := ry
    exact wpAny_letOwnedTupleGo_listiter hit' go
theorem turn_tup {ws : List W} {i : Nat} {r ta : Addr} {its : List Value} {c : Nat} {xs : List Vr} {t : Expr} {done : Prop} {K : Env → Prop} {QE QG : Shared → Prop} (hh : A.handled = none) (hT : IsT s1.heap ta its.toArray c) (hf : F2 (WR I1 mh1.nxt) ws its) (hit : s1.heap.IsTupleIter r ta i)
  (ht : Tgt xs t) (hs : (Src.seq (.tup ws)).at me1 xs mh1 i done K) (fin : TFin s1 [r] done QE) (item : TItem G A env me1 I1 mh1 s1 xs t (.seq (.tup ws)) i K QG Er [r] (.ref r)) : TGoal G A env t QE QG Er (.ref r) s1 := by
 obtain ⟨vs, hv, hs⟩ := hs
 cases (Option.some.inj hv : ws.map V.w = vs)
 have hTi : s1.heap.IsTuple ta its.toArray := ⟨_, hT, rfl, _, rfl⟩
 rcases hs with ⟨hle, hd⟩ | ⟨x, e', ⟨hx1, hb⟩, hk⟩
 ·exact wpAny_pyNext_tuple_end hh hit hTi (by have := hf.length; simp at hle ⊢; lia) fun h' hs' => fin h' (fun b o e hb => hs' b o (fun q => hb (q ▸ .head _)) e) hd
 ·rw [List.getElem?_map, Option.map_eq_some_iff] at hx1
  obtain ⟨u, hu, rfl⟩ := hx1
  obtain ⟨y, hy, ry⟩ := hf.get hu
  obtain ⟨z, rfl, _⟩ := bindT_w hb
  obtain ⟨p, rfl⟩ := tgt_one ht
  refine wpAny_pyNext_tuple_item hit hTi (by simpa using hy) fun h' hit' hs' => wpAny_pure ?_
  have k : ∀ b o, s1.heap.get? b = some o → b ∉ [r] → h'.get? b = some o := fun b o e hb => (hs'.2 b fun q => hb (q ▸ .head _)).trans e
  have hrt : ta ∉ [r] := fun q => by
   rcases List.mem_singleton.mp q with rfl
   obtain ⟨o, h1, h2, _⟩ := hit
   rw [hT] at h1; cases h1; exact absurd (show (Value.type "tuple") = .type "tuple_iterator" from h2) (by decide)
  exact item h' s1.toks (.w u) y e' k (fun b hb => by
   rcases List.mem_singleton.mp hb with rfl
   obtain ⟨o, h1, h2, _⟩ := hit'
   exact ⟨o, h1, by rw [h2]; decide⟩) ⟨r, ta, its, c, rfl, rfl, k _ _ hT hrt, hf, hit'⟩ hb ry hk
theorem turn_range {m : Int} {i : Nat} {r : Addr} {xs : List Vr} {t : Expr} {done : Prop} {K : Env → Prop} {QE QG : Shared → Prop} (hh : A.handled = none) (hit : IsRangeIter s1.heap r (i : Int) ((if 0 < m then m else 0) - i) 1)
  (ht : Tgt xs t) (hs : (Src.range m).at me1 xs mh1 i done K) (fin : TFin s1 [r] done QE) (item : TItem G A env me1 I1 mh1 s1 xs t (.range m) i K QG Er [r] (.ref r)) : TGoal G A env t QE QG Er (.ref r) s1 := by
 rcases hs with ⟨hle, hd⟩ | ⟨x, ⟨hlt, hsm, rfl⟩, hk⟩
 ·exact wpAny_pyNext_range_end hh hit (by split <;> lia) fun h' hs' => fin h' (fun b o e hb => hs' b o (fun q => hb (q ▸ .head _)) e) hd
 ·obtain ⟨p, rfl⟩ := tgt_one ht
  refine wpAny_pyNext_range_item hit (by split <;> lia) fun h' hit' hs' => wpAny_pure ?_
  refine item h' _ (.int i) _ _ (fun b o e hb => (hs'.2 b fun q => hb (q ▸ .head _)).trans e) (fun b hb => by
   rcases List.mem_singleton.mp hb with rfl
   exact ⟨_, hit', show (Value.type "range_iterator") ≠ .type "tuple" by decide⟩) ⟨r, rfl, rfl, ?_⟩ (by rfl) ⟨_, rfl⟩ hk
  rw [show ((i + 1 : Nat) : Int) = (i : Int) + 1 from rfl, show (if 0 < m then m else 0) - ((i : Int) + 1) = (if 0 < m then m else 0) - (i : Int) - 1 by lia]
  exact hit'
theorem turn_sound {src : Src} {i : Nat} {it : Value} {xs : List Vr} {t : Expr} {done : Prop} {K : Env → Prop} {QE QG : Shared → Prop} (hh : A.handled = none) (a : At G X env I mh s0 me1 I1 mh1 s1 wr) (hi : IterR I1 mh1.nxt s1.heap src i wi it) (hw : ∀ b ∈ wi, b ∈ wr)
  (ht : Tgt xs t) (hx : ∀ x ∈ xs, isStore env.scope x.txt = true ∧ TX env X x) (hXw : ∀ b ∈ wr, ¬ X b)
  (hs : src.at me1 xs mh1 i done K)
  (hE : ∀ s', done → At G X env I mh s0 me1 I1 mh1 s' [] → (∀ b o, s1.heap.get? b = some o → b ∉ wi → s'.heap.get? b = some o) → QE s')
  (hG : ∀ e' s', K e' → At G X env I mh s0 e' I1 mh1 s' wr → IterR I1 mh1.nxt s'.heap src (i + 1) wi it → (∀ b ∈ wr, b ∉ wi → ∀ o, s1.heap.get? b = some o → s'.heap.get? b = some o) → (∀ b o xs k, s1.heap.get? b = some o → o.cls = .type "tuple" → o.data = .seq xs k → s'.heap.get? b = some o) → QG s') :
  wpAny G.M A (pyNext it) (fun r s₁ => match r with
   | none => QE s₁
   | some v => wpAny G.M A (letOwnedTupleGo t it v) (fun _ s₂ => wpAny G.M A (assign t env v) (fun _ s₃ => QG s₃) Er s₂) Er s₁) Er s1 := by
 have fin : TFin s1 wi done QE := turn_fin a hw hE
 clear hE
 have item : TItem G A env me1 I1 mh1 s1 xs t src i K QG Er wi it := turn_item hh a hw ht hx hXw hG
 show TGoal G A env t QE QG Er it s1
 cases src with
 | seq v =>
  clear hG hw
  cases v with
  | w u =>
   cases u with
   | loc l => obtain ⟨l1, r, rfl, rfl, hit⟩ := hi; exact turn_list hh a.S l1 hit ht hs fin item
   | _ => exact hi.elim
  | tup ws => obtain ⟨r, ta, its, c, rfl, rfl, hT, hf, hit⟩ := hi; exact turn_tup hh hT hf hit ht hs fin item
  | old _ => exact hi.elim
 | range m => clear hG hw; obtain ⟨r, rfl, rfl, hit⟩ := hi; exact turn_range hh hit ht hs fin item
 | enum v =>
  clear item
  cases v with
  | w u =>
   cases u with
   | loc l => obtain ⟨l1, e, r, old, rfl, rfl, hne, he, hit⟩ := hi; exact turn_enum hh a l1 hne he hit hw ht hx hXw hs fin hG
   | _ => exact hi.elim
  | _ => exact hi.elim
end
end Mine
end
section
namespace Mine
open PySem PySem.W PyProof.Rows PySem.Calls
variable {G : Gd} {C : CS} {n : Nat} {sc : Scope}
noncomputable def Src.ok : Src → MH → Prop
 | .seq v, h => ∃ vs, items h v = some vs
 | .range _, _ => True
 | .enum v, h => ∃ l vs, v = .loc l ∧ h.get l = some (.list vs)
structure Made (G : Gd) (s s' s'' : Shared) (I' : Inj) (k : Nat) (src : Src) (it : Value) (wi : List Addr) : Prop where
 keep : ∀ b o, s'.heap.get? b = some o → s''.heap.get? b = some o
 gens : s''.gens = s'.gens
 os : s''.os = s'.os
 it : IterR I' k s''.heap src 0 wi it
 dead : ∀ b ∈ wi, s.heap.get? b = none
 own : ∀ b ∈ wi, ¬ Own I' k b
 live : ∀ b ∈ wi, s''.heap.get? b ≠ none ∧ NTup s''.heap b
noncomputable def SndIt (G : Gd) (C : CS) (n : Nat) (sc : Scope) (it : It) (ex : Expr) : Prop :=
 ∀ (A : Around) (env : PySem.Env) (me : Env) (I : Inj) (mh : MH) (s : Shared) (Qm : Src → MH → Prop) (Q : Value → Shared → Prop) (Er : Value → Shared → Prop),
  AOk n A → env.scope = sc → G.St I mh s → EnvR G env me I mh.nxt s.heap → wIt C it me mh Qm → (∀ src h, Qm src h → src.ok h) →
  (∀ src mh' x I' s', Qm src mh' → Ext NoX I mh.nxt s.heap I' mh'.nxt s'.heap → G.St I' mh' s' →
   (∀ (Q' : Value → Shared → Prop) (Er' : Value → Shared → Prop), (∀ it wi s'', Made G s s' s'' I' mh'.nxt src it wi → Q' it s'') → wpAny G.M A (pyIter x) Q' Er' s') → Q x s') →
  wpAny G.M A (eval ex env) Q Er s
section
variable {I I1 : Inj} {mh mh1 : MH} {s s0 s1 s2 : Shared} {A : Around} {Er : Value → Shared → Prop} {env : PySem.Env} {me me1 : Env} {X : Addr → Prop} {wr wi : List Addr}
theorem fresh_facts {I' : Inj} {mh' : MH} {s' : Shared} (S' : G.St I' mh' s') (e : Ext NoX I mh.nxt s.heap I' mh'.nxt s'.heap) {a : Addr} (h : s'.heap.get? a = none) : s.heap.get? a = none ∧ ¬ Own I' mh'.nxt a :=
 ⟨e.live _ h, fun q => St.ownLive S' q h⟩
theorem sndIt_seq {a : E} {ea : Expr} (Ha : SndE G C n sc a ea) : SndIt G C n sc (.seq a) ea := fun A env me I mh s Qm Q Er hA hsc S R hw hok hQ =>
 Ha A env me I mh s _ _ _ hA hsc S R hw fun v mh' x I' s' hp e S' r => hQ _ _ _ _ _ hp e S' fun Q' Er' hq => by
  obtain ⟨vs, hv⟩ := hok _ _ hp
  have z : ∀ b, s'.heap.objs.size ≤ b → s'.heap.get? b = none := fun b hb => get_size _ _ hb
  have F := fresh_facts S' e (z _ (Nat.le_refl _))
  cases v with
  | old a => simp [items] at hv
  | tup ws =>
   obtain ⟨ta, its, k, rfl, hT, hf⟩ := r
   have hTi : s'.heap.IsTuple ta its.toArray := ⟨_, hT, rfl, _, rfl⟩
   refine wpAny_pyIter_tuple hTi (hq _ [s'.heap.objs.size] _ ⟨fun b o e => Heap.get?_push_of_some _ e, rfl, rfl, ⟨_, ta, its, k, rfl, rfl, Heap.get?_push_of_some _ hT, hf, _, Heap.get?_push_size _ rfl, rfl, rfl⟩, ?_, ?_, ?_⟩)
   ·intro b hb; rcases List.mem_singleton.mp hb with rfl; exact F.1
   ·intro b hb; rcases List.mem_singleton.mp hb with rfl; exact F.2
   ·intro b hb; rcases List.mem_singleton.mp hb with rfl
    exact ⟨by rw [Heap.get?_push_size _ rfl]; nofun, ntup_of (Heap.get?_push_size _ rfl) (by show (Value.type "tuple_iterator") ≠ .type "tuple"; decide)⟩
  | w u =>
   cases u <;> simp only [items, reduceCtorEq] at hv
   obtain ⟨l1, rfl⟩ := r
   split at hv
   ·rename_i vs' hm
    obtain ⟨_, ys, k, hL, hf⟩ := S'.list l1 hm
    refine wpAny_pyIter_list hL.isList (hq _ [s'.heap.objs.size] _ ⟨fun b o e => Heap.get?_push_of_some _ e, rfl, rfl, ⟨l1, _, rfl, rfl, _, Heap.get?_push_size _ rfl, rfl, rfl⟩, ?_, ?_, ?_⟩)
    ·intro b hb; rcases List.mem_singleton.mp hb with rfl; exact F.1
    ·intro b hb; rcases List.mem_singleton.mp hb with rfl; exact F.2
    ·intro b hb; rcases List.mem_singleton.mp hb with rfl
     exact ⟨by rw [Heap.get?_push_size _ rfl]; nofun, ntup_of (Heap.get?_push_size _ rfl) (by show (Value.type "list_iterator") ≠ .type "tuple"; decide)⟩
   ·cases hv
theorem range_size (m : Int) : Builtin.Range.rangeSize 0 m 1 = if 0 < m then m else 0 := by
 unfold Builtin.Range.rangeSize
 rw [if_pos (by decide)]
 split <;> simp
theorem range_small {m : Int} (hm : small m) : Builtin.Range.small 0 m 1 = true := by
 unfold Builtin.Range.small
 rw [range_size]
 unfold small at hm
 unfold Builtin.Range.rangeFitsLong
 have h1 : (if 0 < m then m else 0) < 2 ^ 20 := by split <;> lia
 have h2 : -(2 ^ 20) < (if 0 < m then m else 0) := by split <;> lia
 generalize (if 0 < m then m else 0) = q at h1 h2
 simp
 lia
theorem sndIt_range {a : E} {ea : Expr} {p pos : Pos} (Ha : SndE G C n sc a ea) (hx : sc.names.lookup ("range" : Str) = some .globalImplicit := by rfl) (hst : ∀ env, starEach [ea] env = [(false, eval ea env)] := by intro _; rfl) :
  SndIt G C n sc (.range a) (.Call (.Name "range" p) [ea] [] pos) := fun A env me I mh s Qm Q Er hA hsc S R hw hok hQ =>
 call_named (Qm := one fun v h => ∃ n, (v = .int n ∧ small n) ∧ Qm (.range n) h) (snd_cons Ha snd_nil hst) hA hsc S R hw (by decide +kernel) boot_range' (.inr ⟨_, rfl⟩) hx (fun env => by rw [hst]; rfl) (by decide +kernel) (by decide +kernel)
  fun vs mh' xs I' s' q e S' R' r => by
   cases r with
   | nil => exact q.elim
   | cons r1 r2 => cases r2 with
    | cons _ _ => exact q.elim
    | nil =>
     obtain ⟨m, ⟨rfl, hm⟩, hp⟩ := q
     obtain ⟨t, rfl⟩ := r1
     refine call_range_1 ?_
     have kk : ∀ b o, s'.heap.get? b = some o → (s'.heap.push { cls := .type "range", data := .fields #[.int 0 s'.toks, .int m t, .int 1 (s'.toks + 1)] }).get? b = some o := fun b o e => Heap.get?_push_of_some _ e
     have S2 : G.St I' mh' { s' with heap := s'.heap.push { cls := .type "range", data := .fields #[.int 0 s'.toks, .int m t, .int 1 (s'.toks + 1)] }, toks := s'.toks + 1 + 1 } := S'.keep kk rfl rfl
     have e2 := e.trans (Ext.ofKeep (X := NoX) (I := I') (n := mh'.nxt) kk)
     refine hQ _ _ _ _ _ hp e2 S2 fun Q' Er' hq => ?_
     have z := get_size (s'.heap.push { cls := .type "range", data := .fields #[.int 0 s'.toks, .int m t, .int 1 (s'.toks + 1)] }) _ (Nat.le_refl _)
     have F := fresh_facts S2 e2 z
     refine wpAny_pyIter_range (a := 0) (b := m) (c := 1) (t := s'.toks) (u := t) (v := s'.toks + 1) (Heap.get?_push_size _ rfl) ?_ (hq _ [_] _ ⟨fun b o e => Heap.get?_push_of_some _ e, rfl, rfl, ⟨_, rfl, rfl, ?_⟩, ?_, ?_, ?_⟩)
     ·exact range_small hm
     ·have : Builtin.Range.rangeSize 0 m 1 = (if 0 < m then m else 0) - ((0 : Nat) : Int) := by rw [range_size]; lia
      rw [← this]
      exact Heap.get?_push_size _ rfl
     ·intro b hb; rcases List.mem_singleton.mp hb with rfl; exact F.1
     ·intro b hb; rcases List.mem_singleton.mp hb with rfl; exact F.2
     ·intro b hb; rcases List.mem_singleton.mp hb with rfl
      exact ⟨by rw [Heap.get?_push_size _ rfl]; nofun, ntup_of (Heap.get?_push_size _ rfl) (by show (Value.type "range_iterator") ≠ .type "tuple"; decide)⟩
theorem sndIt_enum {a : E} {ea : Expr} {p pos : Pos} (Ha : SndE G C n sc a ea) (hx : sc.names.lookup ("enumerate" : Str) = some .globalImplicit := by rfl) (hst : ∀ env, starEach [ea] env = [(false, eval ea env)] := by intro _; rfl) :
  SndIt G C n sc (.enum a) (.Call (.Name "enumerate" p) [ea] [] pos) := fun A env me I mh s Qm Q Er hA hsc S R hw hok hQ =>
 call_named (Qm := one fun v h => Qm (.enum v) h) (snd_cons Ha snd_nil hst) hA hsc S R hw (by decide +kernel) boot_enumerate' (.inr ⟨_, rfl⟩) hx (fun env => by rw [hst]; rfl) (by decide +kernel) (by decide +kernel)
  fun vs mh' xs I' s' q e S' R' r => by
   cases r with
   | nil => exact q.elim
   | cons r1 r2 => cases r2 with
    | cons _ _ => exact q.elim
    | nil =>
     obtain ⟨l, vs, rfl, hm⟩ := hok _ _ q
     obtain ⟨l1, rfl⟩ := r1
     obtain ⟨_, ys, k, hL, hf⟩ := S'.list l1 hm
     refine call_enumerate_list hL.isList fun h' he hit hsz hk => ?_
     have S2 : G.St I' mh' { s' with heap := h' } := S'.keep hk rfl rfl
     have e2 := e.trans (Ext.ofKeep (X := NoX) (I := I') (n := mh'.nxt) hk)
     have F1 := fresh_facts S' e (get_size s'.heap (s'.heap.objs.size) (Nat.le_refl _))
     have F2 := fresh_facts S' e (get_size s'.heap (s'.heap.objs.size + 1) (Nat.le_succ _))
     refine hQ _ _ _ _ _ q e2 S2 fun Q' Er' hq => wpAny_pyIter_enum he (hq _ [s'.heap.objs.size + 1, s'.heap.objs.size] _ ⟨fun b o e => e, rfl, rfl, ⟨l1, _, _, _, rfl, rfl, Nat.succ_ne_self _, he, hit⟩, ?_, ?_, ?_⟩)
     ·intro b hb
      rcases List.mem_cons.mp hb with rfl | hb
      ·exact F2.1
      ·rcases List.mem_singleton.mp hb with rfl; exact F1.1
     ·intro b hb
      rcases List.mem_cons.mp hb with rfl | hb
      ·exact F2.2
      ·rcases List.mem_singleton.mp hb with rfl; exact F1.2
     ·intro b hb
      rcases List.mem_cons.mp hb with rfl | hb
      ·exact ⟨by show h'.get? _ ≠ _; rw [he]; nofun, ntup_of he (by show (Value.type "enumerate") ≠ .type "tuple"; decide)⟩
      ·rcases List.mem_singleton.mp hb with rfl
       obtain ⟨o, h1, h2, _⟩ := hit
       exact ⟨by show h'.get? _ ≠ _; rw [h1]; nofun, ntup_of h1 (by rw [h2]; decide)⟩
theorem at_start {src : Src} {it : Value} {I' : Inj} {mh' : MH} {s' s'' : Shared} (S : G.St I mh s) (R : EnvR G env me I mh.nxt s.heap) (e : Ext NoX I mh.nxt s.heap I' mh'.nxt s'.heap) (S' : G.St I' mh' s') (M : Made G s s' s'' I' mh'.nxt src it wi) :
  At G (FX env) env I mh s me I' mh' s'' wi := by
 have S2 : G.St I' mh' s'' := S'.keep M.keep M.gens M.os
 have R2 : EnvR G env me I' mh'.nxt s''.heap := (R.next S e S').next S' (Ext.ofKeep M.keep) S2
 obtain ⟨m, F, _⟩ := R.fr
 obtain ⟨oL, _, _, hL, _⟩ := F.ns
 refine ⟨S2, R2, (e.up (env := env)).trans (Ext.ofKeep M.keep), ⟨M.dead, M.own, fun b hb => ?_, fun b hb => (M.live b hb).2⟩, fun q => ?_, fun x c hx hc q => ?_, fun b hb => (M.live b hb).1⟩
 ·cases q : G.h₀.get? b with
  | none => rfl
  | some o => have := S.base b o q; rw [M.dead b hb] at this; cases this
 ·have := M.dead _ q; rw [hL] at this; cases this
 ·obtain ⟨c', o, h1, ⟨oc, h2, _⟩, _⟩ := R.cel x hx
  rw [hc] at h1; cases h1
  have := M.dead _ q; rw [h2] at this; cases this
theorem At.fx (a : At G X env I mh s0 me1 I1 mh1 s1 wr) : ∀ b ∈ wr, ¬ FX env b := fun b hb q => by
 rcases q with rfl | ⟨x, h1, h2⟩
 ·exact a.hL hb
 ·exact a.hC x b (.inl h1) h2 hb
theorem fx_ntup {k : Nat} {h : Heap} (R : EnvR G env me I k h) {b : Addr} (q : FX env b) : NTup h b := fun o xs j e hc hd => by
 rcases q with rfl | ⟨x, h1, h2⟩
 ·obtain ⟨m, F, _⟩ := R.fr
  obtain ⟨oL, _, _, hL, hLd, _⟩ := F.ns
  rw [hL] at e; cases e; rw [hLd] at hd; cases hd
 ·obtain ⟨c', o', g1, ⟨oc, g2, g3⟩, _⟩ := R.cel x (.inl h1)
  rw [h2] at g1; cases g1
  rw [g2] at e; cases e; rw [g3] at hd; cases hd
theorem tx_fx (x : Vr) : TX env (FX env) x := ⟨fun _ => .inl rfl, fun h b hb => .inr ⟨x, h, hb⟩⟩
end
theorem snd_for {xs : List Vr} {it : It} {b : Ss} {t iter : Expr} {body : List Stmt} {pos : Pos} (Hi : SndIt G C n sc it iter) (ht : Tgt xs t) (hx : xs.all (fun x => isStore sc x.txt) = true) (Hb : SndSs G C n sc b body)
  (hs : ∀ env x, foldedSetIterable iter env x = pure x := by intro _ _; rfl) : SndS G C n sc (.for_ xs it b) (.For t iter body [] pos) := fun A env me I mh s Qm Q Er hA hsc S R hw hQ => by
 have hx' : ∀ x ∈ xs, isStore env.scope x.txt = true ∧ TX env (FX env) x := fun x hxm => ⟨by rw [hsc]; exact List.all_eq_true.mp hx x hxm, tx_fx x⟩
 refine wpAny_For (Hi A env me I mh s _ _ _ hA hsc S R hw (fun src h hq => ?_) fun src mh' x I' s' hp e S' hit => hit _ _ fun it wi s'' M => ?_) (hs env)
 ·obtain ⟨N, hq⟩ := hq
  cases N with
  | zero => exact hq.elim
  | succ N =>
   cases src with
   | seq v => obtain ⟨vs, h1, _⟩ := hq; exact ⟨vs, h1⟩
   | range m => trivial
   | enum v => obtain ⟨l, vs, ⟨h1, h2⟩, _⟩ := hq; exact ⟨l, vs, h1, h2⟩
 ·obtain ⟨N, hp⟩ := hp
  let J : Nat → Shared → Prop := fun k s1 => ∃ me1 I1 mh1 i, At G (FX env) env I mh s me1 I1 mh1 s1 wi ∧ IterR I1 mh1.nxt s1.heap src i wi it ∧
   wFor (fun e => e) src xs (fun e' _ h K => wSs C b e' h fun fl e' h' => match fl with | .ret v => Qm (.ret v) e' h' | _ => K e' h') k i me1 mh1 fun e' h' => Qm .next e' h'
  refine codeAny_forLoop_any J (fun k s1 hI => ?_) N ⟨me, I', mh', 0, at_start S R e S' M, M.it, hp⟩
  obtain ⟨me1, I1, mh1, i, a, hi, hw⟩ := hI
  cases k with
  | zero => exact hw.elim
  | succ k =>
   have turn := turn_sound (xs := xs) (t := t) (QE := fun s₁ => Q .next s₁) (Er := notedBy G.M A env fun e s' => cameBackBy G.M A env Er e s')
    (QG := fun s₂ => wpAny G.M A (execs body env) (fun f s₃ => match f with
      | .next | .cont => ∃ m, m < k + 1 ∧ J m s₃
      | .brk => Q .next s₃
      | .ret v => Q (.ret v) s₃) (notedBy G.M A env fun e s' => cameBackBy G.M A env Er e s') s₂) hA.1 a hi (fun b hb => hb) ht hx' a.fx hw (fun s' hd a' _ => hQ _ _ _ _ _ _ hd a'.e a'.S a'.R rfl) fun e' s' hk a' hi' kw kt => by
    refine Hb A env e' I1 mh1 s' _ _ _ hA hsc a'.S a'.R hk fun fl me2 mh2 f I2 s2 hp2 e2 S2 R2 rf => ?_
    have a2 := a'.step e2 (fun _ h => h) a'.fx S2 R2
    have hi2 : IterR I2 mh2.nxt s2.heap src (i + 1) wi it := hi'.stay e2.le (fun l hl => (e2.agree l hl).1) (a'.step_keep e2 a'.fx) fun b o xs j e hc hd => e2.keep b o e (isTup_notOwn a'.S e hc) fun q => fx_ntup a'.R q o xs j e hc hd
    cases fl with
    | next => cases rf; exact ⟨k, Nat.lt_succ_self _, me2, I2, mh2, i + 1, a2, hi2, hp2⟩
    | cont => cases rf; exact ⟨k, Nat.lt_succ_self _, me2, I2, mh2, i + 1, a2, hi2, hp2⟩
    | ret v => obtain ⟨x, rfl, rv⟩ := rf; exact hQ _ _ _ _ _ _ hp2 a2.e S2 R2 ⟨x, rfl, rv⟩
   refine wpAny_mono turn (fun r s₁ h => ?_) fun _ _ h => h
   cases r with
   | none => exact wpAny_execs_nil h
   | some v => exact h
theorem snd_while {t : T} {b : Ss} {et : Expr} {body : List Stmt} {pos : Pos} (Ht : SndT G C n sc t et) (Hb : SndSs G C n sc b body) : SndS G C n sc (.while_ t b) (.While et body [] pos) := fun A env me I mh s Qm Q Er hA hsc S R hw hQ => by
 obtain ⟨N, hw⟩ := hw
 refine wpAny_While (codeAny_whileLoop (fun k s1 => ∃ me1 I1 mh1, G.St I1 mh1 s1 ∧ EnvR G env me1 I1 mh1.nxt s1.heap ∧ Ext (FX env) I mh.nxt s.heap I1 mh1.nxt s1.heap ∧
  wWhile (fun e h K => wT C t e h K) (fun e h K => wSs C b e h fun fl e' h' => match fl with | .ret v => Qm (.ret v) e' h' | _ => K e' h') k me1 mh1 fun e' h' => Qm .next e' h') (fun k s1 hI => ?_) N ⟨me, I, mh, S, R, .refl, hw⟩)
 obtain ⟨me1, I1, mh1, S1, R1, e1, hw⟩ := hI
 cases k with
 | zero => exact hw.elim
 | succ k =>
  refine Ht A env me1 I1 mh1 s1 _ _ _ hA hsc S1 R1 hw fun r mh2 I2 s2 hp e2 S2 => ?_
  have R2 := R1.next S1 e2 S2
  have e12 := e1.trans e2.up
  cases r with
  | false =>
   simp only [Bool.false_eq_true, if_false] at hp ⊢
   exact wpAny_execs_nil (hQ _ _ _ _ _ _ hp e12 S2 R2 rfl)
  | true =>
   simp only [if_true] at hp ⊢
   refine Hb A env me1 I2 mh2 s2 _ _ _ hA hsc S2 R2 hp fun fl me3 mh3 f I3 s3 hp3 e3 S3 R3 rf => ?_
   have e13 := e12.trans e3
   cases fl with
   | next => cases rf; exact ⟨k, Nat.lt_succ_self _, me3, I3, mh3, S3, R3, e13, hp3⟩
   | cont => cases rf; exact ⟨k, Nat.lt_succ_self _, me3, I3, mh3, S3, R3, e13, hp3⟩
   | ret v => obtain ⟨x, rfl, rv⟩ := rf; exact hQ _ _ _ _ _ _ hp3 e13 S3 R3 ⟨x, rfl, rv⟩
end Mine
end
section
namespace Mine
open PySem PySem.W PyProof.Rows PySem.Calls
variable {G : Gd} {C : CS} {n : Nat} {sc : Scope}
theorem snd_unpack {xs : List Vr} {a : E} {t ea : Expr} {pos : Pos} (Ha : SndE G C n sc a ea) (ht : Tgt xs t) (hlen : xs.length ≠ 1) (hx : xs.all (fun x => isStore sc x.txt) = true)
  (he : ∀ env, ∃ es k p, t = .Tuple es k p ∧ swapsWithSole [.Tuple es k p] ea pos.line env = pure false ∧ swappedStores [.Tuple es k p] ea env = pure none) : SndS G C n sc (.unpack xs a) (.Assign [t] ea pos) := fun A env me I mh s Qm Q Er hA hsc S R hw hQ => by
 obtain ⟨es, k, p, rfl, h1, h2⟩ := he env
 have hx' : ∀ x ∈ xs, isStore env.scope x.txt = true ∧ TX env (FX env) x := fun x hxm => ⟨by rw [hsc]; exact List.all_eq_true.mp hx x hxm, tx_fx x⟩
 refine Assign_Tuple (Ha A env me I mh s _ _ _ hA hsc S R hw fun v mh' x I' s' hp e S' r => ?_) h1 h2
 obtain ⟨ws, e', ⟨rfl, hu⟩, hp⟩ := hp
 have hb : bindT me xs (.tup ws) = some e' := by
  match xs, hlen, hu with
  | [_], hlen, _ => exact absurd rfl hlen
  | [], _, hu => exact hu
  | _ :: _ :: _, _, hu => exact hu
 exact tgt_sound (X := FX env) hA.1 ht hb hx' S' (R.next S e S') r fun s'' S'' R'' e'' _ => hQ _ _ _ _ _ _ hp (e.up.trans e'') S'' R'' rfl
theorem snd_pair {a b : E} {ea eb : Expr} {k : Nat} {pos : Pos} (Ha : SndE G C n sc a ea) (Hb : SndE G C n sc b eb)
  (hst : ∀ env, starEach [ea, eb] env = [(false, eval ea env), (false, eval eb env)] := by intro _; rfl) (hst2 : ∀ env, starEach [eb] env = [(false, eval eb env)] := by intro _; rfl)
  {A : Around} {env : PySem.Env} {me : Env} {I : Inj} {mh : MH} {s : Shared} {Qm : V → V → MH → Prop} {Q : Value → Shared → Prop} {Er : Value → Shared → Prop}
  (hA : AOk n A) (hs : env.scope = sc) (S : G.St I mh s) (R : EnvR G env me I mh.nxt s.heap) (hw : wE C a me mh fun va h1 => wE C b me h1 fun vb h2 => Qm va vb h2)
  (hQ : ∀ va vb mh' t xa xb c I' s', Qm va vb mh' → Ext NoX I mh.nxt s.heap I' mh'.nxt s'.heap → G.St I' mh' s' → EnvR G env me I' mh'.nxt s'.heap → VR I' mh'.nxt s'.heap va xa → VR I' mh'.nxt s'.heap vb xb → IsT s'.heap t #[xa, xb] c → Q (.ref t) s') :
  wpAny G.M A (eval (.Tuple [ea, eb] k pos) env) Q Er s := by
 have hw' : wEs C (.cons a (.cons b .nil)) me mh (two Qm) := hw
 refine Tuple_ (snd_cons Ha (snd_cons Hb snd_nil hst2) (fun env => by rw [hst, hst2]) pos A env me I mh s _ _ _ hA hs S R hw' fun vs mh' xs I' s' hq e S' r => ?_)
 cases r with
 | nil => exact hq.elim
 | cons r1 r => cases r with
 | nil => exact hq.elim
 | cons r2 r => cases r with
 | cons _ _ => exact hq.elim
 | nil =>
  rename_i va xa vb xb
  refine wpAny_newObj_type ?_ (by show ([xa, xb] : List Value).toArray.size ≤ sizeLine; rw [List.size_toArray]; exact room_line (by unfold room; simp))
  have k : ∀ b o, s'.heap.get? b = some o → (s'.heap.push { cls := .type "tuple", data := .seq ([xa, xb] : List Value).toArray }).get? b = some o := fun b o e => Heap.get?_push_of_some _ e
  have S2 : G.St I' mh' { s' with heap := s'.heap.push { cls := .type "tuple", data := .seq ([xa, xb] : List Value).toArray } } := S'.keep k rfl rfl
  have e2 : Ext NoX I' mh'.nxt s'.heap I' mh'.nxt (s'.heap.push { cls := .type "tuple", data := .seq ([xa, xb] : List Value).toArray }) := Ext.ofKeep k
  exact hQ va vb mh' _ xa xb 0 I' _ hq (e.trans e2) S2 (R.next S (e.trans e2) S2) (r1.next (s' := { s' with heap := s'.heap.push { cls := .type "tuple", data := .seq ([xa, xb] : List Value).toArray } }) S' e2) (r2.next (s' := { s' with heap := s'.heap.push { cls := .type "tuple", data := .seq ([xa, xb] : List Value).toArray } }) S' e2) (Heap.get?_push_size _ rfl)
theorem snd_assign2 {x y : Vr} {a b : E} {ea eb : Expr} {tx ty : Str} {k k' : Nat} {p1 p2 tp vp pos : Pos} (Ha : SndE G C n sc a ea) (Hb : SndE G C n sc b eb) (hxt : tx = x.txt := by rfl) (hyt : ty = y.txt := by rfl) (hx : isStore sc tx = true := by rfl) (hy : isStore sc ty = true := by rfl)
  (hst : ∀ env, starEach [ea, eb] env = [(false, eval ea env), (false, eval eb env)] := by intro _; rfl) (hst2 : ∀ env, starEach [eb] env = [(false, eval eb env)] := by intro _; rfl)
  (h1 : ∀ env, swapsWithSole [.Tuple [.Name tx p1, .Name ty p2] k tp] (.Tuple [ea, eb] k' vp) pos.line env = pure false := by intro _; rfl)
  (h2 : ∀ env, env.scope = sc → swappedStores [.Tuple [.Name tx p1, .Name ty p2] k tp] (.Tuple [ea, eb] k' vp) env = pure none ∨ swappedStores [.Tuple [.Name tx p1, .Name ty p2] k tp] (.Tuple [ea, eb] k' vp) env = pure (some [tx, ty])) :
  SndS G C n sc (.assign2 x y a b) (.Assign [.Tuple [.Name tx p1, .Name ty p2] k tp] (.Tuple [ea, eb] k' vp) pos) := fun A env me I mh s Qm Q Er hA hsc S R hw hQ => by
 subst hxt hyt
 have hw' : wE C a me mh fun va h1 => wE C b me h1 fun vb h2 => ∃ wa wb, (x ≠ y ∧ va = .w wa ∧ vb = .w wb) ∧ Qm .next (upd (upd me x va) y vb) h2 := hw
 rcases h2 env hsc with h2 | h2
 ·refine Assign_Tuple (snd_pair Ha Hb hst hst2 hA hsc S R hw' fun va vb mh' t xa xb c I' s' hp e S' R' ra rb hT => ?_) (h1 env) h2
  obtain ⟨wa, wb, ⟨hne, rfl, rfl⟩, hp⟩ := hp
  refine wpAny_assign_Tuple (items := #[xa, xb]) hA.1 ⟨_, hT, rfl, _, rfl⟩ rfl rfl fun h' hs => ?_
  have kk : ∀ b o, s'.heap.get? b = some o → h'.get? b = some o := fun b o e => hs b o (Nat.ne_of_lt (Heap.lt_size e)) e
  have S2 : G.St I' mh' { s' with heap := h' } := S'.keep kk rfl rfl
  have e2 : Ext NoX I' mh'.nxt s'.heap I' mh'.nxt h' := Ext.ofKeep kk
  have R2 := R'.next S' e2 S2
  refine wpAny_assignInOrder_more (wpAny_assign_Name (store_sound (X := FX env) (v := .w wa) S2 R2 (isStore_or hx hsc) (WR.mono (Nat.le_refl _) (fun _ _ => rfl) ra) (tx_fx x) fun s3 S3 R3 e3 kt3 => ?_))
  refine wpAny_assignInOrder_more (wpAny_assign_Name (store_sound (X := FX env) (v := .w wb) S3 R3 (isStore_or hy hsc) rb (tx_fx y) fun s4 S4 R4 e4 kt4 => wpAny_assignInOrder_none ?_))
  exact hQ _ _ _ _ _ _ hp (((e.trans e2).up.trans e3).trans e4) S4 R4 rfl
 ·refine Assign_Tuple_swapped (snd_pair Ha Hb hst hst2 hA hsc S R hw' fun va vb mh' t xa xb c I' s' hp e S' R' ra rb hT => ?_) (h1 env) h2
  obtain ⟨wa, wb, ⟨hne, rfl, rfl⟩, hp⟩ := hp
  refine unpackItems_tuple (items := #[xa, xb]) hA.1 ⟨_, hT, rfl, _, rfl⟩ fun h' hs => ?_
  have kk : ∀ b o, s'.heap.get? b = some o → h'.get? b = some o := fun b o e => hs b o (Nat.ne_of_lt (Heap.lt_size e)) e
  have S2 : G.St I' mh' { s' with heap := h' } := S'.keep kk rfl rfl
  have e2 : Ext NoX I' mh'.nxt s'.heap I' mh'.nxt h' := Ext.ofKeep kk
  have R2 := R'.next S' e2 S2
  show wpAny _ _ (assignInOrder [fun v => bindName env y.txt v, fun v => bindName env x.txt v] [xb, xa]) _ _ _
  refine wpAny_assignInOrder_more (bindName_ (store_sound (X := FX env) (v := .w wb) S2 R2 (isStore_or hy hsc) rb (tx_fx y) fun s3 S3 R3 e3 kt3 => ?_))
  refine wpAny_assignInOrder_more (bindName_ (store_sound (X := FX env) (v := .w wa) S3 R3 (isStore_or hx hsc) (WR.mono (Nat.le_refl _) (fun _ _ => rfl) ra) (tx_fx x) fun s4 S4 R4 e4 kt4 => wpAny_assignInOrder_none ?_))
  have : upd (upd me y (.w wb)) x (.w wa) = upd (upd me x (.w wa)) y (.w wb) := by
   funext z
   unfold upd
   by_cases g1 : z = x
   ·subst g1; simp [hne]
   ·by_cases g2 : z = y
    ·subst g2; simp [g1]
    ·simp [g1, g2]
  rw [this] at R4
  exact hQ _ _ _ _ _ _ hp (((e.trans e2).up.trans e3).trans e4) S4 R4 rfl
end Mine
end
section
namespace Mine
open PySem PySem.W PyProof.Rows PySem.Calls
variable {G : Gd} {C : CS} {n : Nat} {sc : Scope}
section
variable {I I1 : Inj} {mh mh1 : MH} {s s0 s1 s2 : Shared} {A : Around} {Er : Value → Shared → Prop} {env : PySem.Env} {me me1 : Env} {X : Addr → Prop} {wr wi : List Addr}
theorem St.adopt (S : G.St I mh s) {vs : List V} {a : Addr} {ys : List Value} {k : Nat} (ho : ¬ Own I mh.nxt a) (za : G.h₀.objs.size ≤ a) (hl : IsL s.heap a ys.toArray k) (f : F2 (VR I mh.nxt s.heap) vs ys) : G.St (I.put mh.nxt a a) (mh.new (.list vs)) s := by
 have hne : ∀ {m : Nat}, m < mh.nxt → I.a m ≠ a ∧ I.d m ≠ a := fun {m} hm => ⟨fun e => ho ⟨m, hm, .inl e.symm⟩, fun e => ho ⟨m, hm, .inr e.symm⟩⟩
 refine ⟨S.base, fun b hb => ?_, S.gens, S.os, fun l hl => ?_, fun l hl' => ?_, fun l j hl' hj hlj => ?_, S.olds⟩
 ·obtain ⟨l, hl, hb⟩ := hb
  by_cases hln : l < mh.nxt
  ·rw [(put_lt hln).1, (put_lt hln).2] at hb; exact S.fresh b ⟨l, hln, hb⟩
  ·have : l = mh.nxt := by have : l < mh.nxt + 1 := hl; lia
   subst this
   rw [put_at.1, put_at.2, or_self] at hb
   rw [hb]; exact za
 ·have h1 : mh.nxt + 1 ≤ l := hl
  show (if l = mh.nxt then _ else _) = _
  rw [if_neg (by lia)]; exact S.top l (by lia)
 ·have h1 : l < mh.nxt + 1 := hl'
  by_cases hln : l < mh.nxt
  ·obtain ⟨o', h2, h3⟩ := S.obj l hln
   refine ⟨o', ?_, h3.stay (Nat.le_succ _) (fun j hj => (put_lt hj).1) (fun b ob _ _ e _ _ => e) (put_lt hln).1 (put_lt hln).2 (fun ob e => e) (fun ob e => e)⟩
   show (if l = mh.nxt then _ else _) = _
   rw [if_neg (Nat.ne_of_lt hln)]; exact h2
  ·have : l = mh.nxt := by lia
   subst this
   refine ⟨.list vs, ?_, by rw [put_at.1, put_at.2], ys, k, by rw [put_at.1]; exact hl, f.imp fun _ _ r => r.stay (Nat.le_succ _) (fun j hj => (put_lt hj).1) fun b ob _ _ e _ _ => e⟩
   show (if mh.nxt = mh.nxt then _ else _) = _
   rw [if_pos rfl]
 ·have h1 : l < mh.nxt + 1 := hl'
  have h2 : j < mh.nxt + 1 := hj
  by_cases hln : l < mh.nxt <;> by_cases hjn : j < mh.nxt
  ·rw [(put_lt hln).1, (put_lt hln).2, (put_lt hjn).1, (put_lt hjn).2]; exact S.inj l j hln hjn hlj
  ·have : j = mh.nxt := by lia
   subst this
   rw [(put_lt hln).1, (put_lt hln).2, put_at.1, put_at.2]
   have := hne hln
   exact ⟨this.1, this.1, this.2, this.2⟩
  ·have : l = mh.nxt := by lia
   subst this
   rw [(put_lt hjn).1, (put_lt hjn).2, put_at.1, put_at.2]
   have := hne hjn
   exact ⟨Ne.symm this.1, Ne.symm this.2, Ne.symm this.1, Ne.symm this.2⟩
  ·lia
theorem Ext.adopt {k0 : Nat} {h0 h : Heap} {a : Addr} (e : Ext X I k0 h0 I1 mh1.nxt h) (ha : h0.get? a = none) {o : MO} : Ext X I k0 h0 (I1.put mh1.nxt a a) (mh1.new o).nxt h where
 le := Nat.le_succ_of_le e.le
 agree := fun l hl => by
  have := put_lt (I := I1) (a := a) (d := a) (Nat.lt_of_lt_of_le hl e.le)
  rw [this.1, this.2]; exact e.agree l hl
 new := fun l h1 h2 => by
  by_cases hl : l < mh1.nxt
  ·rw [(put_lt hl).1, (put_lt hl).2]; exact e.new l h1 hl
  ·have : l = mh1.nxt := by have : l < mh1.nxt + 1 := h2; lia
   subst this
   rw [put_at.1, put_at.2]; exact ⟨ha, ha⟩
 keep := e.keep
 live := e.live
theorem closure_eq {cs : Scope} (h : ∀ x ∈ cs.names, x.2 = .free → ∃ c, env.cells.lookup x.1 = some c) :
  ∃ cl, closureFor cs env = pure cl ∧ (∀ x c, cl.lookup x = some c → env.cells.lookup x = some c) ∧ (∀ x ∈ cs.names, x.2 = .free → cl.lookup x.1 = env.cells.lookup x.1) := by
 have key : ∀ (l : List (Str × NameKind)) (acc : List (Str × Addr)), (∀ x ∈ l, x.2 = .free → ∃ c, env.cells.lookup x.1 = some c) → (∀ x c, acc.lookup x = some c → env.cells.lookup x = some c) →
   ∃ cl, (forIn l acc fun (x : Str × NameKind) (r : List (Str × Addr)) => if (x.2 == NameKind.free) = true then do let a ← cellOf env x.1; pure (ForInStep.yield ((x.1, a) :: r)) else pure (ForInStep.yield r)) = (pure cl : Sem (List (Str × Addr))) ∧
    (∀ x c, cl.lookup x = some c → env.cells.lookup x = some c) ∧ (∀ x ∈ l, x.2 = .free → (cl.lookup x.1).isSome = true) ∧ (∀ x, (acc.lookup x).isSome = true → (cl.lookup x).isSome = true) := by
  intro l
  induction l with
  | nil => intro acc _ ha; exact ⟨acc, by rw [List.forIn_nil], ha, nofun, fun _ h => h⟩
  | cons y l ih =>
   intro acc hl ha
   obtain ⟨nm, kd⟩ := y
   rw [List.forIn_cons]
   by_cases hk : kd = .free
   ·subst hk
    obtain ⟨c, hc⟩ := hl _ (.head _) rfl
    have hcell : cellOf env nm = pure c := by unfold cellOf; rw [show env.cells.lookup nm = some c from hc]
    obtain ⟨cl, h1, h2, h3, h4⟩ := ih ((nm, c) :: acc) (fun x hx => hl x (.tail _ hx)) fun x d hd => by
     rw [List.lookup_cons] at hd
     split at hd
     ·rename_i hb
      cases hd; rw [beq_iff_eq.mp hb]; exact hc
     ·exact ha x d hd
    refine ⟨cl, ?_, h2, fun x hx hf => ?_, fun x hx => h4 x ?_⟩
    ·simp only [beq_self_eq_true, if_true, hcell]
     exact h1
    ·rcases List.mem_cons.mp hx with rfl | hx
     ·exact h4 _ (by rw [List.lookup_cons]; simp)
     ·exact h3 x hx hf
    ·rw [List.lookup_cons]; split
     ·rfl
     ·exact hx
   ·obtain ⟨cl, h1, h2, h3, h4⟩ := ih acc (fun x hx => hl x (.tail _ hx)) ha
    have hk' : (kd == NameKind.free) = false := by simpa using hk
    refine ⟨cl, ?_, h2, fun x hx hf => ?_, h4⟩
    ·simp only [hk', Bool.false_eq_true, if_false]
     exact h1
    ·rcases List.mem_cons.mp hx with rfl | hx
     ·exact absurd hf hk
     ·exact h3 x hx hf
 obtain ⟨cl, h1, h2, h3, _⟩ := key cs.names [] h nofun
 refine ⟨cl, ?_, h2, fun x hx hf => ?_⟩
 ·unfold closureFor
  refine Eq.trans ?_ (congrArg (fun m => m >>= fun r => (pure r : Sem (List (Str × Addr)))) h1 |>.trans rfl)
  rfl
 ·obtain ⟨c, hc⟩ := Option.isSome_iff_exists.mp (h3 x hx hf)
  rw [hc, h2 _ _ hc]
noncomputable def rel (cs sc : Scope) : Scope := { cs with names := cs.names.map fun (n, k) => if (k == .free && sc.kind == .function && sc.names.lookup n == some .cell) then (n, .cell) else (n, k) }
theorem relabel_rel {cs : Scope} (h : env.scope = sc) : relabel cs env = rel cs sc := by subst h; rfl
noncomputable def hide (cs : Scope) (e : Env) : Env := fun y => if cs.names.lookup y.txt = some .local then none else e y
noncomputable def CompOk (cs sc : Scope) (xs : List Vr) : Bool :=
 cs.kind == .function && cs.names.all (fun x => x.2 != .cell) && cs.names.all (fun x => x.2 != .local || cs.names.lookup x.1 == some .local) &&
 cs.names.all (fun x => x.2 != .free || sc.names.lookup x.1 == some .cell || sc.names.lookup x.1 == some .free) &&
 xs.all (fun x => cs.names.lookup x.txt == some .local) && allVr.all (fun y => cs.names.lookup y.txt != some .local || decide (y ∈ xs)) &&
 cs.names.all (fun x => x.2 != .free || allVr.any (fun v => v.txt == x.1))
theorem lookup_rel {cs sc : Scope} {x : Str} : (rel cs sc).names.lookup x = (cs.names.lookup x).map fun k => if (k == .free && sc.kind == .function && sc.names.lookup x == some .cell) then .cell else k := by
 unfold rel
 dsimp only
 generalize cs.names = l
 induction l with
 | nil => rfl
 | cons y l ih =>
  obtain ⟨nm, kd⟩ := y
  rw [List.map_cons]
  cases hb : x == nm with
  | true =>
   have := beq_iff_eq.mp hb; subst this
   dsimp only
   split
   ·rename_i h; rw [List.lookup_cons, List.lookup_cons, hb]; simp only [Option.map_some]; rw [if_pos h]
   ·rename_i h; rw [List.lookup_cons, List.lookup_cons, hb]; simp only [Option.map_some]; rw [if_neg h]
  | false =>
   dsimp only
   split <;> (rw [List.lookup_cons, List.lookup_cons, hb]; exact ih)
end
section
variable {I I1 : Inj} {mh mh1 : MH} {s s0 s1 s2 : Shared} {A : Around} {Er : Value → Shared → Prop} {env : PySem.Env} {me me1 : Env} {X : Addr → Prop} {wr wi : List Addr}
theorem updW_agree {xs : List Vr} : ∀ {D : Vr → Prop} {ws : List W} {e1 e2 e' : Env}, (∀ y, ¬ D y → e1 y = e2 y) → updW e1 xs ws = some e' → ∃ e2', updW e2 xs ws = some e2' ∧ ∀ y, (D y → y ∈ xs) → e' y = e2' y := by
 induction xs with
 | nil =>
  intro D ws e1 e2 e' h hu
  cases ws with
  | nil => cases hu; exact ⟨e2, rfl, fun y hy => h y fun hd => nomatch hy hd⟩
  | cons _ _ => exact none_ne hu
 | cons x xs ih =>
  intro D ws e1 e2 e' h hu
  cases ws with
  | nil => exact none_ne hu
  | cons w ws =>
   obtain ⟨e2', h1, h2⟩ := ih (D := fun y => D y ∧ y ≠ x) (e1 := upd e1 x (.w w)) (e2 := upd e2 x (.w w)) (fun y hy => by
    by_cases hx : y = x
    ·exact (if_pos hx).trans (if_pos hx).symm
    ·exact (if_neg hx).trans ((h y fun hd => hy ⟨hd, hx⟩).trans (if_neg hx).symm)) hu
   exact ⟨e2', h1, fun y hy => h2 y fun hd => (List.mem_cons.mp (hy hd.1)).resolve_left hd.2⟩
theorem bindT_agree {D : Vr → Prop} {xs : List Vr} {v : V} {e1 e2 e' : Env} (h : ∀ y, ¬ D y → e1 y = e2 y) (hD : ∀ y, D y → y ∈ xs) (hb : bindT e1 xs v = some e') : bindT e2 xs v = some e' := by
 have go : ∀ {ws : List W}, updW e1 xs ws = some e' → updW e2 xs ws = some e' := fun {ws} hu => by
  obtain ⟨e2', h1, h2⟩ := updW_agree (D := D) h hu
  rw [h1]
  congr 1
  funext y
  exact (h2 y (hD y)).symm
 have one : ∀ x, xs = [x] → upd e1 x v = upd e2 x v := fun x hx => by
  funext y
  unfold upd
  by_cases hy : y = x
  ·simp [hy]
  ·simp only [hy, if_false]
   exact h y fun hd => hy (by have := hD y hd; rw [hx] at this; exact List.mem_singleton.mp this)
 cases xs with
 | nil =>
  cases v with
  | tup ws => exact go hb
  | _ => exact none_ne hb
 | cons x xs =>
  cases xs with
  | nil => cases hb; exact congrArg some (one x rfl).symm
  | cons _ _ =>
   cases v with
   | tup ws => exact go hb
   | _ => exact none_ne hb
theorem Src.at_agree {D : Vr → Prop} {src : Src} {e1 e2 : Env} {xs : List Vr} {h : MH} {i : Nat} {done : Prop} {K : Env → Prop} (hag : ∀ y, ¬ D y → e1 y = e2 y) (hD : ∀ y, D y → y ∈ xs) (ha : src.at e1 xs h i done K) : src.at e2 xs h i done K := by
 cases src with
 | seq v =>
  obtain ⟨vs, h1, h2⟩ := ha
  refine ⟨vs, h1, h2.imp id fun ⟨x, e', ⟨h3, h4⟩, h5⟩ => ⟨x, e', ⟨h3, bindT_agree hag hD h4⟩, h5⟩⟩
 | range m =>
  refine Or.imp id (fun ⟨x, ⟨h3, h4, h5⟩, h6⟩ => ⟨x, ⟨h3, h4, h5⟩, ?_⟩) ha
  have : bindT e2 xs (.int i) = some (upd e1 x (.int i)) := bindT_agree hag hD (by rw [h5]; rfl)
  rw [h5] at this
  rw [Option.some.inj this]; exact h6
 | enum v =>
  obtain ⟨l, vs, h1, h2⟩ := ha
  refine ⟨l, vs, h1, h2.imp id fun ⟨x, y, z, ⟨h3, h4, h5, h6⟩, h7⟩ => ⟨x, y, z, ⟨h3, h4, h5, h6⟩, ?_⟩⟩
  have : upd (upd e2 y (.int i)) z x = upd (upd e1 y (.int i)) z x := by
   funext u
   unfold upd
   by_cases hz : u = z
   ·simp [hz]
   ·by_cases hy : u = y
    ·simp [hz, hy]
    ·simp only [hz, hy, if_false]
     exact (hag u fun hd => by have := hD u hd; rw [h4] at this; simp at this; exact this.elim hy hz).symm
  rw [this]; exact h7
theorem EnvR.le {k : Nat} {h : Heap} (R : EnvR G env me I k h) (hle : ∀ y v, me1 y = some v → me y = some v) : EnvR G env me1 I k h := by
 obtain ⟨hk, hg, hb, ⟨m, F, hm⟩, hnL, hc, ha⟩ := R
 refine ⟨hk, hg, hb, ⟨m, F, fun x v h1 h2 => hm x v (hle x v h1) h2⟩, hnL, fun x hx => ?_, ha⟩
 obtain ⟨c, o, h1, h2, h3, h4, h5⟩ := hc x hx
 exact ⟨c, o, h1, h2, h3, h4, fun v hv => h5 v (hle x v hv)⟩
theorem iter_self {k : Nat} {src : Src} {i : Nat} {it : Value} {Q : Value → Shared → Prop} (r : IterR I k s.heap src i wi it) (h : Q it s) : wpAny G.M A (pyIter it) Q Er s := by
 unfold IterR at r
 split at r
 ·obtain ⟨l1, r, rfl, rfl, hit⟩ := r; exact wpAny_pyIter_listiter hit h
 ·obtain ⟨r, t, items, c, rfl, rfl, h1, h2, hit⟩ := r; exact wpAny_pyIter_tupleiter hit h
 ·obtain ⟨r, rfl, rfl, h1⟩ := r; exact wpAny_pyIter_rangeiter h1 h
 ·obtain ⟨l1, e, r, old, rfl, rfl, hne, h1, hit⟩ := r; exact wpAny_pyIter_enum h1 h
 ·exact r.elim
theorem compLoop_any {R : Result → Shared → Prop} {elt target iter : Expr} {ifs : List Expr} {scope : Scope} {pos : Pos} {it acc : Value} (J : Nat → Shared → Prop)
  (turn : ∀ n s, J n s → wpAny G.M A (pyNext it) (fun r s₁ => match r with
   | none => R (.ok .next) s₁
   | some v => wpAny G.M A (letOwnedTupleGo target it v) (fun _ s₁' => wpAny G.M A (assign target env v) (fun _ s₂ =>
     wpAny G.M A (forIn ifs true fun c r => if r = true then do let ok ← isTrue c env (eval c env); pure (ForInStep.yield ok) else pure (ForInStep.yield r)) (fun ok s₃ =>
      if ok = true then wpAny G.M A (eval elt env) (fun x s₄ =>
       wpAny G.M A (call (.builtin "list.append") [acc, x]) (fun _ s₅ => ∃ m, m < n ∧ J m s₅) (notedBy G.M A env fun e s' => R (.error e) s') s₄) (notedBy G.M A env fun e s' => R (.error e) s') s₃
      else ∃ m, m < n ∧ J m s₃) (notedBy G.M A env fun e s' => R (.error e) s') s₂) (notedBy G.M A env fun e s' => R (.error e) s') s₁') (notedBy G.M A env fun e s' => R (.error e) s') s₁) (notedBy G.M A env fun e s' => R (.error e) s') s)
  (n : Nat) (h : J n s) : codeAny G.M A (.compLoop (.ListComp elt [⟨target, iter, ifs, 0⟩] scope pos) 0 it acc env) R s := by
 refine codeAny_loop rfl J (fun n s hI => ?_) n h
 show wpAny _ A ((compTurn (.ListComp elt [⟨target, iter, ifs, 0⟩] scope pos) 0 it acc env).onRaise (fun x => do noteFrame x env; theTreesLotGoes x)) _ _ s
 refine wpAny_noted ?_
 rw [compTurn_list]
 refine wpAny_bind (wpAny_standAt (wpAny_bind (wpAny_mono (turn n s hI) (fun r s₁ h₁ => ?_) fun _ _ h' => h')))
 cases r with
 | none => exact wpAny_pure h₁
 | some v =>
  refine wpAny_bind (wpAny_mono h₁ (fun _ s₁' h₁' => ?_) fun _ _ h' => h')
  refine wpAny_bind (wpAny_mono h₁' (fun _ s₂ h₂ => wpAny_bind (wpAny_mono h₂ (fun ok s₃ h₃ => ?_) fun _ _ h' => h')) fun _ _ h' => h')
  cases ok with
  | false => exact wpAny_pure ⟨rfl, h₃⟩
  | true =>
   exact wpAny_bind (wpAny_bind (wpAny_mono h₃ (fun x s₄ h₄ => wpAny_bind (wpAny_mono h₄ (fun _ s₅ h₅ => wpAny_pure (wpAny_pure ⟨rfl, h₅⟩)) fun _ _ h' => h')) fun _ _ h' => h'))
theorem append_exact {l : Addr} {xs : List Value} {k : Nat} {x : Value} {Q : Value → Shared → Prop} (hl : IsL s.heap l xs.toArray k) (hsz : xs.length ≤ room)
  (hQ : Q .none { s with heap := s.heap.update l (Obj.mapSeq (·.push x)) }) : wpAny G.M A (call (.builtin "list.append") [.ref l, x]) Q Er s := by
 refine wpAny_call_entry slot_list_append hl.isList.typeIs entry_list_append ?_ (args_list_append _ _)
 show wpAny _ _ (updateSeq l (·.push x) >>= fun _ => ret .none) _ _ s
 refine wpAny_bind ?_
 exact wpAny_updateSeq hl rfl (wpAny_pure ⟨.none, rfl, hQ⟩) (by have := room_line hsz; simp; lia) (by have := room_line hsz; simp; lia)
end
end Mine
end
section
namespace Mine
open PySem PySem.W PyProof.Rows PySem.Calls
variable {G : Gd} {C : CS} {n : Nat} {sc : Scope}
inductive SndIfs (G : Gd) (C : CS) (n : Nat) (sc : Scope) : T → List Expr → Prop
 | nil : SndIfs G C n sc .tt []
 | one {t e} (h : SndT G C n sc t e) : SndIfs G C n sc t [e]
noncomputable def cStep (C : CS) (elt : E) (c : T) (e' : Env) (acc : List V) (h2 : MH) (K : List V → MH → Prop) : Prop :=
 wT C c e' h2 fun r h3 => if r = true then wE C elt e' h3 fun v h4 => acc.length ≤ room ∧ K (acc ++ [v]) h4 else K acc h3
section
variable {I I1 : Inj} {mh mh1 : MH} {s s0 s1 s2 : Shared} {A : Around} {Er : Value → Shared → Prop} {env : PySem.Env} {me me1 : Env} {X : Addr → Prop} {wr wi : List Addr}
theorem updW_le {xs : List Vr} : ∀ {ws : List W} {e e' : Env}, updW e xs ws = some e' → ∀ y, y ∉ xs → e' y = e y := by
 induction xs with
 | nil =>
  intro ws e e' h y _
  cases ws with
  | nil => cases h; rfl
  | cons _ _ => exact none_ne h
 | cons x xs ih =>
  intro ws e e' h y hy
  cases ws with
  | nil => exact none_ne h
  | cons w ws => exact (ih (e := upd e x (.w w)) h y fun q => hy (.tail _ q)).trans (if_neg fun q => hy (by rw [q]; exact .head _))
theorem bindT_le {xs : List Vr} {v : V} {e e' : Env} (h : bindT e xs v = some e') : ∀ y, y ∉ xs → e' y = e y := by
 cases xs with
 | nil =>
  cases v with
  | tup ws => exact updW_le h
  | _ => exact none_ne h
 | cons x xs =>
  cases xs with
  | nil => cases h; exact fun y hy => if_neg fun q => hy (by rw [q]; exact .head _)
  | cons _ _ =>
   cases v with
   | tup ws => exact updW_le h
   | _ => exact none_ne h
theorem Src.at_le {src : Src} {e : Env} {xs : List Vr} {h : MH} {i : Nat} {done : Prop} {K : Env → Prop} (hn : ∀ x ∈ xs, e x = none) (ha : src.at e xs h i done K) : src.at e xs h i done (fun e' => K e' ∧ ∀ y v, e y = some v → e' y = some v) := by
 have go : ∀ {e' : Env}, (∀ y, y ∉ xs → e' y = e y) → ∀ y v, e y = some v → e' y = some v := fun {e'} hle y v hv => by
  by_cases hy : y ∈ xs
  ·rw [hn y hy] at hv; cases hv
  ·rw [hle y hy]; exact hv
 cases src with
 | seq v =>
  obtain ⟨vs, h1, h2⟩ := ha
  exact ⟨vs, h1, h2.imp id fun ⟨x, e', ⟨h3, h4⟩, h5⟩ => ⟨x, e', ⟨h3, h4⟩, h5, go (bindT_le h4)⟩⟩
 | range m =>
  refine Or.imp id (fun ⟨x, ⟨h3, h4, h5⟩, h6⟩ => ⟨x, ⟨h3, h4, h5⟩, h6, go fun y hy => ?_⟩) ha
  unfold upd
  rw [if_neg fun q => hy (by rw [h5, q]; exact .head _)]
 | enum v =>
  obtain ⟨l, vs, h1, h2⟩ := ha
  refine ⟨l, vs, h1, h2.imp id fun ⟨x, y, z, ⟨h3, h4, h5, h6⟩, h7⟩ => ⟨x, y, z, ⟨h3, h4, h5, h6⟩, h7, go fun u hu => ?_⟩⟩
  rw [h4] at hu
  unfold upd
  rw [if_neg fun q => hu (by rw [q]; simp), if_neg fun q => hu (by rw [q]; simp)]
noncomputable def CEnd (G : Gd) (env : PySem.Env) (me : Env) (I : Inj) (mh : MH) (s : Shared) (Qm : V → MH → Prop) (RR : Value → Addr → Result → Shared → Prop) : Prop :=
 ∀ (acc : List V) (mh1 : MH) (I1 : Inj) (s' : Shared) (D Cn : Addr) (ys : List Value) (kk : Nat) (m : Str → Option Value),
  Qm (.loc mh1.nxt) (mh1.new (.list acc)) → G.St I1 mh1 s' → Ext NoX I mh.nxt s.heap I1 mh1.nxt s'.heap → IsL s'.heap D ys.toArray kk → F2 (VR I1 mh1.nxt s'.heap) acc ys →
  s.heap.get? D = none → ¬ Own I1 mh1.nxt D → G.h₀.objs.size ≤ D → s'.heap.Ns Cn m → s.heap.get? Cn = none → ¬ Own I1 mh1.nxt Cn → D ≠ Cn → RR (.ref D) Cn (.ok .next) s'
structure CompS (G : Gd) (cenv : PySem.Env) (I : Inj) (mh : MH) (s : Shared) (me' : Env) (src : Src) (wi : List Addr) (it : Value) (D Cn : Addr) (i : Nat) (acc : List V) (ys : List Value) (I1 : Inj) (mh1 : MH) (s1 : Shared) : Prop where
 a : At G (fun b => b = Cn) cenv I mh s me' I1 mh1 s1 (D :: wi)
 it : IterR I1 mh1.nxt s1.heap src i wi it
 L : ∃ kk, IsL s1.heap D ys.toArray kk
 F : F2 (VR I1 mh1.nxt s1.heap) acc ys
section
variable {cenv : PySem.Env} {me' : Env} {src : Src} {it : Value} {D Cn : Addr} {i : Nat} {acc : List V} {ys : List Value} {I3 : Inj} {mh3 : MH} {s3 : Shared}
theorem CompS.next (q : CompS G cenv I mh s me' src wi it D Cn i acc ys I1 mh1 s1) (e : Ext NoX I1 mh1.nxt s1.heap I3 mh3.nxt s3.heap) (S3 : G.St I3 mh3 s3) : CompS G cenv I mh s me' src wi it D Cn i acc ys I3 mh3 s3 where
 a := q.a.step e (fun _ h => h.elim) (fun _ _ h => h) S3 (q.a.R.next q.a.S e S3)
 it := q.it.stay e.le (fun l hl => (e.agree l hl).1) (fun b hb => q.a.step_keep e (fun _ _ h => h) b (.tail _ hb)) fun b o xs j h hc hd => e.keep b o h (isTup_notOwn q.a.S h hc) fun h => h
 L := q.L.imp fun _ h => q.a.step_keep e (fun _ _ h => h) D (.head _) _ h
 F := q.F.imp fun _ _ r => r.next q.a.S e
theorem CompS.push (q : CompS G cenv I mh s me' src wi it D Cn i acc ys I1 mh1 s1) (DW : D ∉ wi) {v : V} {x : Value} (r : VR I1 mh1.nxt s1.heap v x) :
  CompS G cenv I mh s me' src wi it D Cn i (acc ++ [v]) (ys ++ [x]) I1 mh1 { s1 with heap := s1.heap.update D (Obj.mapSeq (·.push x)) } := by
 obtain ⟨a, hi, ⟨kk, hL⟩, hf⟩ := q
 have u := hL.update (·.push x)
 have uk : ∀ b o, s1.heap.get? b = some o → b ≠ D → (s1.heap.update D (Obj.mapSeq (·.push x))).get? b = some o := fun b o e hb => (Heap.get?_update_ne _ _ _ _ hb).trans e
 have ut : ∀ b o xs j, s1.heap.get? b = some o → o.cls = .type "tuple" → o.data = .seq xs j → (s1.heap.update D (Obj.mapSeq (·.push x))).get? b = some o := fun b o xs j e hc hd => uk b o e fun q => by
  subst q; exact a.W.tup _ (.head _) o xs j e hc hd
 refine ⟨a.side (fun b o e hb => uk b o e fun q => hb (q ▸ .head _)) rfl rfl fun b hb => ?_, hi.stay (Nat.le_refl _) (fun _ _ => rfl) (fun b hb o ho => uk b o ho fun q => DW (q ▸ hb)) ut, ⟨_, by rw [show (ys ++ [x]).toArray = ys.toArray.push x by simp]; exact u⟩,
  (hf.append (.cons r .nil)).imp fun _ _ r => r.stay (Nat.le_refl _) (fun _ _ => rfl) ut⟩
 rcases List.mem_cons.mp hb with rfl | hb
 ·exact ⟨ntup_of u (by show (Value.type "list") ≠ .type "tuple"; decide), by rw [show (s1.heap.update b (Obj.mapSeq (·.push x))).get? b = _ from u]; nofun⟩
 ·have hne : b ≠ D := fun q => DW (q ▸ hb)
  cases q : s1.heap.get? b with
  | none => exact absurd q (a.live b (.tail _ hb))
  | some o =>
   have z := uk b o q hne
   refine ⟨fun o' xs j e hc hd => ?_, by show (s1.heap.update D _).get? b ≠ none; rw [z]; nofun⟩
   rw [show (s1.heap.update D (Obj.mapSeq (·.push x))).get? b = some o from z] at e; cases e
   exact a.W.tup b (.tail _ hb) o xs j q hc hd
end
inductive CompJ (G : Gd) (C : CS) (cenv : PySem.Env) (I : Inj) (mh : MH) (s : Shared) (me me' : Env) (src : Src) (wi : List Addr) (it : Value) (D Cn : Addr) (xs : List Vr) (elt : E) (c : T) (Qm : V → MH → Prop) (k : Nat) (s1 : Shared) : Prop
 | mk (I1 : Inj) (mh1 : MH) (i : Nat) (acc : List V) (ys : List Value) (q : CompS G cenv I mh s me' src wi it D Cn i acc ys I1 mh1 s1)
  (w : wFor (fun _ => me) src xs (cStep C elt c) k i acc mh1 fun acc h2 => Qm (.loc h2.nxt) (h2.new (.list acc)))
theorem comp_loop {elt : E} {xs : List Vr} {c : T} {eElt eIter t : Expr} {ifs : List Expr} {cs : Scope} {pos : Pos} {Qm : V → MH → Prop} {RR : Result → Shared → Prop} {cenv : PySem.Env} {me' : Env} {src : Src} {it : Value} {D Cn : Addr} {I' : Inj} {mh' : MH} {s4 : Shared} {N : Nat}
  (ht : Tgt xs t) (Hc : SndIfs G C n sc c ifs) (He : SndE G C n sc elt eElt) (hA : AOk n A) (g1 : cenv.scope = sc) (hx : ∀ x ∈ xs, isStore cenv.scope x.txt = true ∧ TX cenv (fun b => b = Cn) x) (CnW : Cn ∉ D :: wi) (DW : D ∉ wi)
  (hat : ∀ (i : Nat) (mh1 : MH) (done : Prop) (K : Env → Prop), src.at me xs mh1 i done K → src.at me' xs mh1 i done fun e' => K e' ∧ ∀ y v, me' y = some v → e' y = some v)
  (hend : ∀ (acc : List V) (ys : List Value) (mh1 : MH) (I1 : Inj) (s' : Shared) (kk : Nat), Qm (.loc mh1.nxt) (mh1.new (.list acc)) → At G (fun b => b = Cn) cenv I mh s me' I1 mh1 s' [] → IsL s'.heap D ys.toArray kk → F2 (VR I1 mh1.nxt s'.heap) acc ys → ¬ Own I1 mh1.nxt D → RR (.ok .next) s')
  (q0 : CompS G cenv I mh s me' src wi it D Cn 0 [] [] I' mh' s4) (hp : wFor (fun _ => me) src xs (cStep C elt c) N 0 [] mh' fun acc h2 => Qm (.loc h2.nxt) (h2.new (.list acc))) :
  codeAny G.M A (.compLoop (.ListComp eElt [⟨t, eIter, ifs, 0⟩] cs pos) 0 it (.ref D) cenv) RR s4 := by
 refine compLoop_any (CompJ G C cenv I mh s me me' src wi it D Cn xs elt c Qm) (fun k s1 hI => ?_) N ⟨I', mh', 0, [], [], q0, hp⟩
 obtain ⟨I1, mh1, i, acc, ys, q, hw⟩ := hI
 cases k with
 | zero => exact hw.elim
 | succ k =>
  have cont : ∀ (e' : Env) (r : Bool) (mh3 : MH) (I3 : Inj) (s3 : Shared), (if r = true then wE C elt e' mh3 fun v h4 => acc.length ≤ room ∧ wFor (fun _ => me) src xs (cStep C elt c) k (i + 1) (acc ++ [v]) h4 fun acc h2 => Qm (.loc h2.nxt) (h2.new (.list acc))
     else wFor (fun _ => me) src xs (cStep C elt c) k (i + 1) acc mh3 fun acc h2 => Qm (.loc h2.nxt) (h2.new (.list acc))) → CompS G cenv I mh s me' src wi it D Cn (i + 1) acc ys I3 mh3 s3 → EnvR G cenv e' I3 mh3.nxt s3.heap →
    (if r = true then wpAny G.M A (eval eElt cenv) (fun x s₄ =>
     wpAny G.M A (call (.builtin "list.append") [.ref D, x]) (fun _ s₅ => ∃ m, m < k + 1 ∧ CompJ G C cenv I mh s me me' src wi it D Cn xs elt c Qm m s₅) (notedBy G.M A cenv fun e s' => RR (.error e) s') s₄) (notedBy G.M A cenv fun e s' => RR (.error e) s') s3
    else ∃ m, m < k + 1 ∧ CompJ G C cenv I mh s me me' src wi it D Cn xs elt c Qm m s3) := fun e' r mh3 I3 s3 hr q3 R3 => by
   cases r with
   | false =>
    rw [if_neg Bool.false_ne_true] at hr ⊢
    exact ⟨k, Nat.lt_succ_self _, I3, mh3, i + 1, acc, ys, q3, hr⟩
   | true =>
    rw [if_pos rfl] at hr ⊢
    refine He A cenv e' I3 mh3 s3 _ _ _ hA g1 q3.a.S R3 hr fun v mh5 x I5 s5 hp5 e5 S5 r5 => ?_
    have q5 := q3.next e5 S5
    obtain ⟨kk, hL⟩ := q5.L
    exact append_exact hL (by rw [← q5.F.length]; exact hp5.1) ⟨k, Nat.lt_succ_self _, I5, mh5, i + 1, acc ++ [v], ys ++ [x], q5.push DW r5, hp5.2⟩
  refine wpAny_mono (turn_sound (xs := xs) (t := t) (wi := wi) (QE := fun s₁ => RR (.ok .next) s₁) (Er := notedBy G.M A cenv fun e s' => RR (.error e) s')
   (QG := fun s₂ => wpAny G.M A (forIn ifs true fun c r => if r = true then do let ok ← isTrue c cenv (eval c cenv); pure (ForInStep.yield ok) else pure (ForInStep.yield r)) (fun ok s₃ =>
     if ok = true then wpAny G.M A (eval eElt cenv) (fun x s₄ =>
      wpAny G.M A (call (.builtin "list.append") [.ref D, x]) (fun _ s₅ => ∃ m, m < k + 1 ∧ CompJ G C cenv I mh s me me' src wi it D Cn xs elt c Qm m s₅) (notedBy G.M A cenv fun e s' => RR (.error e) s') s₄) (notedBy G.M A cenv fun e s' => RR (.error e) s') s₃
     else ∃ m, m < k + 1 ∧ CompJ G C cenv I mh s me me' src wi it D Cn xs elt c Qm m s₃) (notedBy G.M A cenv fun e s' => RR (.error e) s') s₂) hA.1 q.a q.it (fun b hb => .tail _ hb) ht hx (fun b hb q => CnW (q ▸ hb)) (hat i mh1 _ _ hw) (fun s' hd a' hk => ?_) fun e' s' hk a' hi' kw kt => ?_) (fun r s₁ h => ?_) fun _ _ h => h
  ·obtain ⟨kk, hL⟩ := q.L
   exact hend acc ys mh1 I1 s' kk hd a' (hk D _ hL DW) (q.F.imp fun _ _ r => r.side (wr := wi) (fun b hb => q.a.W.tup b (.tail _ hb)) hk) (q.a.W.own D (.head _))
  ·have q1 : CompS G cenv I mh s me' src wi it D Cn (i + 1) acc ys I1 mh1 s' := ⟨{ a' with R := a'.R.le hk.2 }, hi', q.L.imp fun _ h => kw D (.head _) DW _ h, q.F.imp fun _ _ r => r.stay (Nat.le_refl _) (fun _ _ => rfl) kt⟩
   cases Hc with
   | nil => exact wpAny_tests_nil (cont e' true mh1 I1 s' hk.1 q1 a'.R)
   | one Ht => exact wpAny_tests_one (Ht A cenv e' I1 mh1 s' _ _ _ hA g1 a'.S a'.R hk.1 fun r mh3 I3 s3 hr e3 S3 => cont e' r mh3 I3 s3 hr (q1.next e3 S3) (a'.R.next a'.S e3 S3))
  ·cases r with
   | none => exact h
   | some v => exact h
theorem comp_core {elt : E} {xs : List Vr} {it : It} {c : T} {eElt eIter t : Expr} {ifs : List Expr} {cs : Scope} {pos : Pos} {Qm : V → MH → Prop} {RR : Value → Addr → Result → Shared → Prop} {Er : Value → Shared → Prop}
  (Hi : SndIt G C n sc it eIter) (ht : Tgt xs t) (Hc : SndIfs G C n (rel cs sc) c ifs) (He : SndE G C n (rel cs sc) elt eElt) (hcs : CompOk cs sc xs = true)
  (hA : AOk n A) (hsc : env.scope = sc) (S : G.St I mh s) (R : EnvR G env me I mh.nxt s.heap) (hw : wE C (.comp elt xs it c) me mh Qm) (hend : CEnd G env me I mh s Qm RR) :
  ∃ cl, closureFor cs env = pure cl ∧ wpAny G.M A (eval eIter env) (fun x s₁ => wpAny G.M A (pyIter x) (fun it s₂ => wpAny G.M A (newList []) (fun acc s₃ =>
   wpAny G.M A (newFunctionEnv cs env.globals cl [] env.qual none .none (some env)) (fun cenv s₄ =>
    codeAny G.M A (.compStart (.ListComp eElt [⟨t, eIter, ifs, 0⟩] cs pos) 0 it acc { cenv with scope := relabel cs env }) (RR acc cenv.locals) s₄) Er s₃) Er s₂) Er s₁) Er s := by
 unfold CompOk at hcs
 simp only [Bool.and_eq_true, List.all_eq_true, beq_iff_eq, bne_iff_ne, ne_eq, Bool.or_eq_true, decide_eq_true_eq, List.any_eq_true] at hcs
 obtain ⟨⟨⟨⟨⟨⟨c1, c2⟩, c3⟩, c4⟩, c5⟩, c6⟩, c7⟩ := hcs
 have kindSc : sc.kind = .function := by rw [← hsc]; exact R.kind
 have hfree : ∀ y : Vr, cs.names.lookup y.txt = some .free → env.kindOf y.txt = some .cell ∨ env.kindOf y.txt = some .free := fun y hy => by
  have hm := mem_of_lookup hy
  have := c4 _ hm
  rcases this with (h | h) | h
  ·exact absurd rfl h
  ·left; rw [← hsc] at h; exact h
  ·right; rw [← hsc] at h; exact h
 obtain ⟨cl, hcl, hcl1, hcl2⟩ := closure_eq (env := env) (cs := cs) fun x hx hf => by
  rcases c7 x hx with h | ⟨v, _, h⟩
  ·exact absurd hf h
  ·have : env.kindOf v.txt = some .cell ∨ env.kindOf v.txt = some .free := by
    rw [h]
    rcases c4 x hx with (g | g) | g
    ·exact absurd hf g
    ·left; rw [← hsc] at g; exact g
    ·right; rw [← hsc] at g; exact g
   obtain ⟨c, o, h1, _⟩ := R.cel v this
   exact ⟨c, by rw [← h]; exact h1⟩
 refine ⟨cl, hcl, Hi A env me I mh s _ _ _ hA hsc S R hw (fun src h hq => ?_) fun src mh' x I' s' hp e S' hit => hit _ _ fun it wi s'' M => ?_⟩
 ·obtain ⟨N, hq⟩ := hq
  cases N with
  | zero => exact hq.elim
  | succ N =>
   cases src with
   | seq v => obtain ⟨vs, h1, _⟩ := hq; exact ⟨vs, h1⟩
   | range m => trivial
   | enum v => obtain ⟨l, vs, ⟨h1, h2⟩, _⟩ := hq; exact ⟨l, vs, h1, h2⟩
 obtain ⟨N, hp⟩ := hp
 refine wpAny_newObj_type (wpAny_newFunctionEnv (fun x hx => c2 x hx) (by intro y hy; simp at hy) (fun h₁ hns hsb => ?_) c1)
 dsimp only at hns hsb ⊢
 generalize hH2 : s''.heap.push { cls := .type "list", dict := none, data := .seq ([] : List Value).toArray } = H2 at hns hsb ⊢
 generalize hD : s''.heap.objs.size = D at *
 generalize hCn : H2.objs.size = Cn at *
 have hCD : Cn = D + 1 := by rw [← hCn, ← hH2, Heap.size_push, hD]
 have zz : G.h₀.objs.size ≤ D := by
  rw [← hD]
  have S2 : G.St I' mh' s'' := S'.keep M.keep M.gens M.os
  exact ((R.next S e S').next S' (Ext.ofKeep M.keep) S2).size
 have live2 : ∀ b o, s''.heap.get? b = some o → b < D := fun b o e => by rw [← hD]; exact Heap.lt_size e
 have dd : ∀ b, D ≤ b → s''.heap.get? b = none := fun b hb => get_size _ _ (by rw [hD]; exact hb)
 have back : ∀ b, s''.heap.get? b = none → s.heap.get? b = none := fun b hb => e.live b (by
  cases q : s'.heap.get? b with
  | none => rfl
  | some o => rw [M.keep b o q] at hb; cases hb)
 have keep2 : ∀ b o, s''.heap.get? b = some o → h₁.get? b = some o := fun b o e => by
  have := live2 b o e
  refine hsb.extBut b o (fun q => ?_) (Heap.get?_push_of_some _ (by rw [← hH2]; exact Heap.get?_push_of_some _ e))
  rw [q, hCD] at this; exact Nat.lt_irrefl _ (Nat.lt_of_succ_lt this)
 have hDC : D ≠ Cn := by rw [hCD]; exact Nat.ne_of_lt (Nat.lt_succ_self _)
 have hDl : IsL h₁ D ([] : List Value).toArray 0 := by
  refine hsb.extBut D _ hDC (Heap.get?_push_of_some _ ?_)
  rw [← hH2, ← hD]; exact Heap.get?_push_size _ rfl
 have S2 : G.St I' mh' s'' := S'.keep M.keep M.gens M.os
 have S4 : G.St I' mh' { s'' with heap := h₁, toks := s''.toks + ([] : List (Str × Value)).length } := S2.keep keep2 rfl rfl
 have e4 : Ext NoX I mh.nxt s.heap I' mh'.nxt h₁ := (e.trans (Ext.ofKeep M.keep)).trans (Ext.ofKeep keep2)
 have R4 : EnvR G env me I' mh'.nxt h₁ := R.next S e4 S4
 show codeAny G.M A (.compStart (.ListComp eElt [⟨t, eIter, ifs, 0⟩] cs pos) 0 it (.ref D) (compEnvC cs cl Cn env)) (RR (.ref D) Cn) { s'' with heap := h₁, toks := s''.toks + ([] : List (Str × Value)).length }
 generalize hs4 : ({ s'' with heap := h₁, toks := s''.toks + ([] : List (Str × Value)).length } : Shared) = s4 at *
 have hh4 : s4.heap = h₁ := by rw [← hs4]
 rw [← hh4] at hns hsb hDl e4 R4 keep2
 have g1 : (compEnvC cs cl Cn env).scope = rel cs sc := relabel_rel hsc
 have g2 : (compEnvC cs cl Cn env).locals = Cn := rfl
 have g3 : (compEnvC cs cl Cn env).globals = mainGlobals := R.glob
 have g4 : (compEnvC cs cl Cn env).builtins = builtinsNs := R.blt
 have g5 : (compEnvC cs cl Cn env).cells = cl := rfl
 generalize compEnvC cs cl Cn env = cenv at g1 g2 g3 g4 g5 ⊢
 have gk : ∀ {x : Str}, cenv.kindOf x = (cs.names.lookup x).map fun k => if (k == .free && sc.kind == .function && sc.names.lookup x == some .cell) then .cell else k := fun {x} => by
  show cenv.scope.names.lookup x = _
  rw [g1]; exact lookup_rel
 have glocal : ∀ {x : Str}, cenv.kindOf x = some .local ↔ cs.names.lookup x = some .local := fun {x} => by
  rw [gk]
  cases q : cs.names.lookup x with
  | none => simp
  | some k =>
   simp only [Option.map_some, Option.some.injEq]
   split
   ·rename_i h
    simp only [Bool.and_eq_true, beq_iff_eq] at h
    rw [h.1.1]; simp
   ·rfl
 have gcell : ∀ {x : Str}, cenv.kindOf x = some .cell ∨ cenv.kindOf x = some .free → cs.names.lookup x = some .free := fun {x} h => by
  rw [gk] at h
  cases q : cs.names.lookup x with
  | none => rw [q] at h; simp at h
  | some k =>
   rw [q] at h
   cases k with
   | free => rfl
   | cell => exact absurd rfl (c2 _ (mem_of_lookup q))
   | _ => simp at h
 have lookC : ∀ {x : Vr}, cs.names.lookup x.txt = some .free → cl.lookup x.txt = env.cells.lookup x.txt := fun {x} h => hcl2 _ (mem_of_lookup h) rfl
 have dC : s.heap.get? Cn = none := back _ (dd _ (by rw [hCD]; exact Nat.le_succ _))
 have dD : s.heap.get? D = none := back _ (dd _ (Nat.le_refl _))
 have notOwn : ∀ b, s''.heap.get? b = none → ¬ Own I' mh'.nxt b := fun b hb q => St.ownLive S2 q hb
 have RC : EnvR G cenv (hide cs me) I' mh'.nxt s4.heap := by
  refine ⟨by rw [g1]; exact c1, g3, g4, ⟨_, ⟨by rw [g2]; exact hns, S4.base, by rw [g2]; exact Nat.le_trans zz (by rw [hCD]; exact Nat.le_succ _)⟩, fun x v h1 h2 => ?_⟩, by rw [g2]; exact notOwn _ (dd _ (by rw [hCD]; exact Nat.le_succ _)), fun x hx => ?_, fun x y c hx hy => ?_⟩
  ·unfold hide at h1
   rw [if_pos (glocal.mp h2)] at h1; cases h1
  ·have hf := gcell hx
   obtain ⟨c, o, h1, h2, h3, h4, h5⟩ := R4.cel x (hfree x hf)
   refine ⟨c, o, by rw [g5, lookC hf]; exact h1, h2, h3, h4, fun v hv => h5 v ?_⟩
   unfold hide at hv
   rw [if_neg (by rw [hf]; nofun)] at hv
   exact hv
  ·rw [g5] at hx hy
   exact R.apart x y c (hcl1 _ _ hx) (hcl1 _ _ hy)
 have wiLive : ∀ b ∈ wi, ∃ o, s''.heap.get? b = some o := fun b hb => by
  cases q : s''.heap.get? b with
  | none => exact absurd q (M.live b hb).1
  | some o => exact ⟨o, rfl⟩
 have CnW : Cn ∉ D :: wi := fun q => by
  rcases List.mem_cons.mp q with q | q
  ·exact hDC q.symm
  ·obtain ⟨o, ho⟩ := wiLive _ q
   rw [dd _ (by rw [hCD]; exact Nat.le_succ _)] at ho; cases ho
 have DW : D ∉ wi := fun q => by
  obtain ⟨o, ho⟩ := wiLive _ q
  rw [dd _ (Nat.le_refl _)] at ho; cases ho
 have a0 : At G (fun b => b = Cn) cenv I mh s (hide cs me) I' mh' s4 (D :: wi) := by
  refine ⟨S4, RC, e4.weaken (fun _ h => h.elim), ⟨fun b hb => ?_, fun b hb => ?_, fun b hb => ?_, fun b hb => ?_⟩, by rw [g2]; exact CnW, fun x c hx hc q => ?_, fun b hb => ?_⟩
  ·rcases List.mem_cons.mp hb with rfl | hb
   ·exact dD
   ·exact M.dead b hb
  ·rcases List.mem_cons.mp hb with rfl | hb
   ·exact notOwn _ (dd _ (Nat.le_refl _))
   ·exact M.own b hb
  ·rcases List.mem_cons.mp hb with rfl | hb
   ·exact h0_none zz
   ·cases q : G.h₀.get? b with
    | none => rfl
    | some o => have := S.base b o q; rw [M.dead b hb] at this; cases this
  ·rcases List.mem_cons.mp hb with rfl | hb
   ·exact ntup_of hDl (by show (Value.type "list") ≠ .type "tuple"; decide)
   ·obtain ⟨o, ho⟩ := wiLive _ hb
    intro o' xs j e hc hd
    rw [keep2 b o ho] at e; cases e
    exact (M.live b hb).2 o xs j ho hc hd
  ·have hf := gcell hx
   rw [g5, lookC hf] at hc
   obtain ⟨c', o, h1, ⟨oc, h2, _⟩, _⟩ := R.cel x (hfree x hf)
   rw [hc] at h1; cases h1
   rcases List.mem_cons.mp q with rfl | q
   ·rw [dD] at h2; cases h2
   ·rw [M.dead _ q] at h2; cases h2
  ·rcases List.mem_cons.mp hb with rfl | hb
   ·rw [show s4.heap.get? b = _ from hDl]; nofun
   ·obtain ⟨o, ho⟩ := wiLive _ hb
    rw [keep2 b o ho]; nofun
 have it4 : IterR I' mh'.nxt s4.heap src 0 wi it := M.it.stay (Nat.le_refl _) (fun _ _ => rfl) (fun b hb o ho => keep2 b o ho) fun b o xs j e _ _ => keep2 b o e
 have hx' : ∀ x ∈ xs, isStore cenv.scope x.txt = true ∧ TX cenv (fun b => b = Cn) x := fun x hxm => by
  have hl := glocal.mpr (c5 x hxm)
  refine ⟨?_, fun _ => g2, fun h => by rw [hl] at h; cases h⟩
  unfold isStore
  rw [show cenv.scope.names.lookup x.txt = some .local from hl]; rfl
 have hat : ∀ (i : Nat) (mh1 : MH) (done : Prop) (K : Env → Prop), src.at me xs mh1 i done K → src.at (hide cs me) xs mh1 i done fun e' => K e' ∧ ∀ y v, hide cs me y = some v → e' y = some v := fun i mh1 done K hw =>
  Src.at_le (e := hide cs me) (fun x hxm => by unfold hide; rw [if_pos (c5 x hxm)]) (Src.at_agree (e2 := hide cs me) (D := fun y => cs.names.lookup y.txt = some .local) (fun y hy => by unfold hide; rw [if_neg hy]) (fun y hy => (c6 y (mem_allVr y)).resolve_left (fun q => q hy)) hw)
 have loop : codeAny G.M A (.compLoop (.ListComp eElt [⟨t, eIter, ifs, 0⟩] cs pos) 0 it (.ref D) cenv) (RR (.ref D) Cn) s4 :=
  comp_loop ht Hc He hA g1 hx' CnW DW hat (fun acc ys mh1 I1 s' kk hd a' hL hf nD => by
   obtain ⟨m, F, _⟩ := a'.R.fr
   exact hend acc mh1 I1 s' D Cn ys kk m hd a'.S (a'.e.enter (fun _ _ e => e) fun b hb => by rw [hb]; exact dC) hL hf dD nD zz (by have := F.ns; rw [g2] at this; exact this) dC (by have := a'.R.nL; rw [g2] at this; exact this) hDC) ⟨a0, it4, ⟨_, hDl⟩, .nil⟩ hp
 exact codeAny_compStart_list loop (iter_self it4 loop)
end
end Mine
end
section
namespace Mine
open PySem PySem.W PyProof.Rows PySem.Calls
variable {G : Gd} {C : CS} {n : Nat} {sc : Scope}
theorem ns_ntup {h : Heap} {L : Addr} {m : Str → Option Value} (N : h.Ns L m) : NTup h L := fun o xs k e hc hd => by
 obtain ⟨oL, _, _, hL, hLd, _⟩ := N
 rw [hL] at e; cases e; rw [hLd] at hd; cases hd
section
variable {I I1 : Inj} {mh mh1 : MH} {s s' : Shared} {X : Addr → Prop}
theorem comp_out {acc : List V} {D Cn : Addr} {ys : List Value} {kk : Nat} {m : Str → Option Value} {h' : Heap} (S : G.St I1 mh1 s') (e : Ext X I mh.nxt s.heap I1 mh1.nxt s'.heap) (hL : IsL s'.heap D ys.toArray kk) (hf : F2 (VR I1 mh1.nxt s'.heap) acc ys)
  (dD : s.heap.get? D = none) (oD : ¬ Own I1 mh1.nxt D) (zD : G.h₀.objs.size ≤ D) (hN : s'.heap.Ns Cn m) (dC : s.heap.get? Cn = none) (oC : ¬ Own I1 mh1.nxt Cn) (hDC : D ≠ Cn) (bC : G.h₀.get? Cn = none) (hs : Heap.SameBut Cn s'.heap h') :
  G.St (I1.put mh1.nxt D D) (mh1.new (.list acc)) { s' with heap := h' } ∧ Ext X I mh.nxt s.heap (I1.put mh1.nxt D D) (mh1.new (.list acc)).nxt h' := by
 have k : ∀ b o, s'.heap.get? b = some o → b ∉ [Cn] → h'.get? b = some o := fun b o e hb => (hs.2 b fun q => hb (q ▸ .head _)).trans e
 have S2 : G.St I1 mh1 { s' with heap := h' } := S.side (wr := [Cn]) (fun b hb => by rcases List.mem_singleton.mp hb with rfl; exact ⟨oC, bC, ns_ntup hN⟩) k rfl rfl
 have hL2 : IsL h' D ys.toArray kk := k D _ hL fun q => hDC (List.mem_singleton.mp q)
 have hf2 : F2 (VR I1 mh1.nxt h') acc ys := hf.imp fun _ _ r => r.side (wr := [Cn]) (fun b hb => by rcases List.mem_singleton.mp hb with rfl; exact ns_ntup hN) k
 exact ⟨S2.adopt oD zD hL2 hf2, (e.side (wr := [Cn]) (fun b hb => by rcases List.mem_singleton.mp hb with rfl; exact dC) k).adopt dD⟩
end
section
variable {elt : E} {xs : List Vr} {it : It} {c : T} {eElt eIter t : Expr} {ifs : List Expr} {cs : Scope} {pos : Pos}
theorem comp_names (hcs : CompOk cs sc xs = true) : cs.kind = .function ∧ ∀ x ∈ cs.names, x.2 = .local → cs.names.lookup x.1 = some .local := by
 unfold CompOk at hcs
 simp only [Bool.and_eq_true, List.all_eq_true, beq_iff_eq, bne_iff_ne, ne_eq, Bool.or_eq_true, decide_eq_true_eq, List.any_eq_true] at hcs
 exact ⟨hcs.1.1.1.1.1.1, fun x hx hl => (hcs.1.1.1.1.2 x hx).resolve_left fun q => q hl⟩
theorem snd_comp (Hi : SndIt G C n sc it eIter) (ht : Tgt xs t) (Hc : SndIfs G C n (rel cs sc) c ifs) (He : SndE G C n (rel cs sc) elt eElt) (hcs : CompOk cs sc xs = true)
  (hs : ∀ env x, foldedSetIterable eIter env x = pure x := by intro _ _; rfl) : SndE G C n sc (.comp elt xs it c) (.ListComp eElt [⟨t, eIter, ifs, 0⟩] cs pos) := fun A env me I mh s Qm Q Er hA hsc S R hw hQ => by
 have hend : CEnd G env me I mh s Qm (fun acc Cn => compPost G.M A Er none Q acc Cn) := fun acc mh1 I1 s' D Cn ys kk m hd S' e hL hf dD oD zD hN dC oC hDC => by
  refine ⟨m, hN, fun h' hs' => ?_⟩
  have bC : G.h₀.get? Cn = none := by
   cases q : G.h₀.get? Cn with
   | none => rfl
   | some o => have := S.base Cn o q; rw [dC] at this; cases this
  obtain ⟨S2, e2⟩ := comp_out S' e hL hf dD oD zD hN dC oC hDC bC hs'
  exact hQ _ _ _ _ _ hd e2 S2 new_loc
 obtain ⟨cl, hcl, h⟩ := comp_core (pos := pos) (Er := Er) Hi ht Hc He hcs hA hsc S R hw hend
 rw [eval_ListComp]
 exact wpAny_comprehension_free (use := none) rfl (hs env) hcl (comp_names hcs).1 (comp_names hcs).2 h
theorem snd_assign_comp {x : Vr} {y : Str} {p spos : Pos} (Hi : SndIt G C n sc it eIter) (ht : Tgt xs t) (Hc : SndIfs G C n (rel cs sc) c ifs) (He : SndE G C n (rel cs sc) elt eElt) (hcs : CompOk cs sc xs = true)
  (hsw : ∀ env, env.scope = sc → swapsWith (.ListComp eElt [⟨t, eIter, ifs, 0⟩] cs pos) (some (.Name y p)) spos.line env = pure true) (hy : y = x.txt := by rfl) (hx : isStore sc y = true := by rfl)
  (hs : ∀ env x, foldedSetIterable eIter env x = pure x := by intro _ _; rfl) : SndS G C n sc (.assign x (.comp elt xs it c)) (.Assign [.Name y p] (.ListComp eElt [⟨t, eIter, ifs, 0⟩] cs pos) spos) := fun A env me I mh s Qm Q Er hA hsc S R hw hQ => by
 subst hy
 have hw' : wE C (.comp elt xs it c) me mh fun v h1 => Qm .next (upd me x v) h1 := hw
 have hend : CEnd G env me I mh s (fun v h1 => Qm .next (upd me x v) h1) (fun acc Cn => compPost G.M A Er (some (assign (.Name x.txt p) env)) (fun _ s => Q .next s) acc Cn) := fun acc mh1 I1 s' D Cn ys kk m hd S' e hL hf dD oD zD hN dC oC hDC => by
  have bC : G.h₀.get? Cn = none := by
   cases q : G.h₀.get? Cn with
   | none => rfl
   | some o => have := S.base Cn o q; rw [dC] at this; cases this
  have S2 := S'.adopt oD zD hL hf
  have e2 : Ext NoX I mh.nxt s.heap (I1.put mh1.nxt D D) (mh1.new (.list acc)).nxt s'.heap := e.adopt dD
  have R2 := R.next S e2 S2
  refine wpAny_assign_Name (store_sound (X := FX env) (v := .loc mh1.nxt) S2 R2 (isStore_or hx hsc) new_loc (tx_fx x) fun s3 S3 R3 e3 kt3 => ?_)
  obtain ⟨oC', es, ep, hC1, hC2, hC3⟩ := hN
  have nfx : ¬ FX env Cn := fun q => by
   rcases q with q | ⟨x, h1, h2⟩
   ·obtain ⟨m, F, _⟩ := R.fr
    obtain ⟨oL, _, _, hL, _⟩ := F.ns
    rw [← q, dC] at hL; cases hL
   ·obtain ⟨c', o, g1, ⟨oc, g2, _⟩, _⟩ := R.cel x (.inl h1)
    rw [h2] at g1; cases g1
    rw [dC] at g2; cases g2
  have oC2 : ¬ Own (I1.put mh1.nxt D D) (mh1.new (.list acc)).nxt Cn := fun ⟨l, hl, hb⟩ => by
   by_cases hln : l < mh1.nxt
   ·rw [(put_lt hln).1, (put_lt hln).2] at hb; exact oC ⟨l, hln, hb⟩
   ·have : l = mh1.nxt := by have : l < mh1.nxt + 1 := hl; lia
    subst this
    rw [put_at.1, put_at.2, or_self] at hb
    exact hDC hb.symm
  have hN3 : s3.heap.Ns Cn m := ⟨oC', es, ep, e3.keep Cn _ hC1 oC2 nfx, hC2, hC3⟩
  refine ⟨m, hN3, fun h' hs' => ?_⟩
  have k : ∀ b o, s3.heap.get? b = some o → b ∉ [Cn] → h'.get? b = some o := fun b o e hb => (hs'.2 b fun q => hb (q ▸ .head _)).trans e
  have wC : ∀ b ∈ [Cn], ¬ Own (I1.put mh1.nxt D D) (mh1.new (.list acc)).nxt b ∧ G.h₀.get? b = none ∧ NTup s3.heap b := fun b hb => by
   rcases List.mem_singleton.mp hb with rfl; exact ⟨oC2, bC, ns_ntup hN3⟩
  have S4 : G.St (I1.put mh1.nxt D D) (mh1.new (.list acc)) { s3 with heap := h' } := S3.side wC k rfl rfl
  refine hQ _ _ _ _ _ _ hd ((e2.up.trans e3).side (wr := [Cn]) (fun b hb => by rcases List.mem_singleton.mp hb with rfl; exact dC) k) S4 (R3.side (wr := [Cn]) S4.base (fun b hb => (wC b hb).2.2) (fun q => ?_) (fun z c hz hc q => ?_) k) rfl
  ·exact nfx (.inl (List.mem_singleton.mp q).symm)
  ·obtain ⟨c', o, g1, ⟨oc, g2, _⟩, _⟩ := R.cel z hz
   rw [hc] at g1; cases g1
   rw [List.mem_singleton.mp q, dC] at g2; cases g2
 obtain ⟨cl, hcl, h⟩ := comp_core (pos := pos) (Er := Er) Hi ht Hc He hcs hA hsc S R hw' hend
 rw [exec_Assign_Name_used _ _ _ _ (hsw env hsc)]
 refine wpAny_bind (wpAny_standAt (wpAny_bind ?_))
 show wpAny _ _ (comprehension (.ListComp eElt [⟨t, eIter, ifs, 0⟩] cs pos) cs env _ (newList []) _ _ (some (assign (.Name x.txt p) env)) >>= _) _ _ _
 refine wpAny_bind (wpAny_mono (wpAny_comprehension_free (use := some (assign (.Name x.txt p) env)) (Q := fun _ s => Q .next s) rfl (hs env) hcl (comp_names hcs).1 (comp_names hcs).2 h) (fun _ s' h => ?_) fun _ _ h => h)
 exact wpAny_pure (wpAny_pure h)
end
end Mine
end
section
namespace Mine
open PySem PySem.W PyProof.Rows PySem.Calls
variable {G : Gd} {C : CS} {n : Nat} {sc : Scope}
theorem snd_gEnd {pos : Pos} (hx : sc.names.lookup ("END" : Str) = some .globalImplicit := by rfl) : SndE G C n sc .gEnd (.Name "END" pos) := fun A env me I mh s Qm Q Er hA hsc S R hw hQ => by
 obtain ⟨t, ht⟩ := G.gEnd
 exact name_glob S R ht (by subst hsc; exact hx) (hQ _ _ _ _ _ hw .refl S ⟨t, rfl⟩) (by decide +kernel)
theorem snd_gOwn {pos : Pos} (hx : sc.names.lookup ("OWN_TERMINALS" : Str) = some .globalImplicit := by rfl) : SndE G C n sc .gOwn (.Name "OWN_TERMINALS" pos) := fun A env me I mh s Qm Q Er hA hsc S R hw hQ => by
 obtain ⟨a, xs, k, ht, hT, hf⟩ := G.gOwn
 refine name_glob S R ht (by subst hsc; exact hx) (hQ (.tup [.str .dend, .str .err, .str .undef]) _ _ _ _ hw .refl S ⟨a, xs, k, rfl, S.base a _ hT, ?_⟩) (by decide +kernel)
 exact F2.of_map_left (f := W.str) (R := WR I mh.nxt) (xs := [.dend, .err, .undef]) hf
theorem snd_dict0 {pos : Pos} : SndE G C n sc .dict0 (.Dict [] [] pos) := fun A env me I mh s Qm Q Er hA hsc S R hw hQ => by
 refine wpAny_Dict_empty ?_
 have z := R.size
 have hd := Heap.DictOf.new (knd := intKind G.prog G.w) s.heap
 obtain ⟨S', e'⟩ := S.alloc (s' := { s with heap := s.heap.push { cls := .type "dict", data := .dict #[] } }) (o := .dict []) (fun b o e => Heap.get?_push_of_some _ e) (get_size _ _ (Nat.le_refl _)) (get_size _ _ (Nat.le_refl _)) z z rfl rfl ⟨by rw [put_at.1, put_at.2], [], by rw [put_at.1]; exact hd, .nil⟩
 exact hQ _ _ _ _ _ hw e' S' new_loc
theorem slice1 (x : Nm) (hx : x = .S ∨ x = .T ∨ x = .U) : Txt.slice x.txt none (some 1) = x.txt := by
 rcases hx with rfl | rfl | rfl <;> decide +kernel
theorem sndT_badName {x : Vr} {y : Str} {k0 k1 k2 k3 k4 k5 : Nat} {p1 p2 p3 p4 p5 p6 p7 p8 p9 p10 p11 p12 p13 : Pos} (hy : y = x.txt := by rfl) (hv : isVar sc y = true := by rfl) (hd : (y == ("__debug__" : Str)) = false := by decide +kernel)
  (hn : (y == ("__classdict__" : Str)) = false := by decide +kernel) :
  SndT G C n sc (.badName x) (.BoolOp .Or [.Compare (.Name y p1) [.Eq] [.Constant (.str "error") k0 p2] p3,
   .Compare (.Subscript (.Name y p4) (.Slice none (some (.Constant (.int 1) k1 p5)) none p6) p7) [.In] [.Tuple [.Constant (.str "") k2 p8, .Constant (.str "$") k3 p9, .Constant (.str "'") k4 p10] k5 p11] p12] p13) := fun A env me I mh s Qm Q Er hA hsc S R hw hQ => by
 obtain ⟨⟨m, he, hm⟩, hq⟩ := hw
 have Hx : ∀ {p : Pos}, SndE G C n sc (.var x) (.Name y p) := fun {p} => snd_var hy hv hd hn
 have H1 : SndT G C n sc (.cmp .eq (.var x) (.str .err)) (.Compare (.Name y p1) [.Eq] [.Constant (.str "error") k0 p2] p3) := sndT_cmp Hx (snd_str rfl) rfl rfl
 refine wpAny_isTrue_BoolOp (wpAny_allTrue_Or_cons (H1 A env me I mh s (fun b h => b = false ∧ h = mh) _ _ hA hsc S R ⟨.str m, he, false, ?_, rfl, rfl⟩ fun b mh' I' s' hb e S' => ?_))
 ·rcases hm with rfl | rfl | rfl <;> rfl
 obtain ⟨rfl, rfl⟩ := hb
 simp only [Bool.false_eq_true, if_false]
 have R' := R.next S e S'
 refine wpAny_allTrue_Or_cons (wpAny_isTrue_Compare1 (Subscript_ (Hx A env me I' mh' s' (fun v h => v = .str m ∧ h = mh') _ _ hA hsc S' R' ⟨.str m, he, rfl, rfl⟩ fun v h xv I2 s2 hq2 e2 S2 r2 => ?_)) rfl)
 obtain ⟨rfl, rfl⟩ := hq2
 obtain ⟨t, rfl⟩ := r2
 refine wpAny_Slice (evalPart_n (evalPart_e (wpAny_Constant_int (evalPart_n ?_))))
 have S3 : G.St I2 h { s2 with toks := s2.toks + 1 } := S2.toks _
 refine tail_of_ItemOn (SBH.sliceItem_ns (s := { s2 with toks := s2.toks + 1 }) (P := fun h' => ∀ b o, s2.heap.get? b = some o → h'.get? b = some o) (fun h' ob hp b o e => Heap.get?_push_of_some _ (hp b o e)) (fun _ _ e => e) (fun h' t' k hk => ?_) ?_) rfl (fun _ => rfl)
 ·rw [slice1 m hm]
  have S4 : G.St I2 h { s2 with heap := h', toks := k } := S2.keep hk rfl rfl
  refine Tuple_ ?_
  show wpAny _ _ (spliced [(false, eval (.Constant (.str "") k2 p8) env), (false, eval (.Constant (.str "$") k3 p9) env), (false, eval (.Constant (.str "'") k4 p10) env)]) _ _ _
  refine Calls.spliced_cons (Constant_str (Calls.spliced_cons (Constant_str (Calls.spliced_cons (Constant_str (Calls.spliced_nil ?_))))))
  refine wpAny_newObj_type ?_ (by show ([_, _, _] : List Value).toArray.size ≤ sizeLine; rw [List.size_toArray]; exact room_line (by unfold room; simp))
  refine in_tuple_strs (ys := ["", "$", "'"]) ⟨_, Heap.get?_push_size _ rfl, rfl, _, rfl⟩ (.cons _ _ (.cons _ _ (.cons _ _ .nil))) ?_
  have hb : (["", "$", "'"] : List Str).any (· == m.txt) = false := by rcases hm with rfl | rfl | rfl <;> decide +kernel
  rw [hb]
  refine wpAny_truthy_bool ?_
  simp only [Bool.false_eq_true, if_false]
  refine wpAny_pure ?_
  have kk : ∀ b o, s2.heap.get? b = some o → (h'.push { cls := .type "tuple", data := .seq ([.str "" k, .str "$" (k + 1), .str "'" (k + 1 + 1)] : List Value).toArray }).get? b = some o := fun b o e => Heap.get?_push_of_some _ (hk b o e)
  exact hQ _ _ _ _ hq (e.trans (e2.trans (Ext.ofKeep kk))) (S2.keep kk rfl rfl)
 ·rcases hm with rfl | rfl | rfl <;> (rw [sizeLine_eq]; decide +kernel)
end Mine
end
section
namespace Mine
open PySem PySem.W PyProof.Rows PySem.Calls
noncomputable def byText (w : World) : Bool := w.params.followText "set-order"
noncomputable def keyStr (e : Int × Value) : Str := strOf e.2
section
variable (prog : Program) (w : World)
structure TabX (es : Array (Int × Value)) (t : SetTable) (xs : List Str) : Prop where
 el : ElemsOf (PySem.strKind prog w) es.toList
 perm : (es.toList.map keyStr).Perm xs
 fits : t.fits es.size = true
 led : t.led = !byText w
 plain : xs = [] ∨ t.plain = false
noncomputable def SetX (h : Heap) (a : Addr) (xs : List Str) : Prop :=
 ∃ es ep t, h.get? a = some { cls := .type "set", dict := none, data := .set es ep t, slots := #[] } ∧ TabX prog w es t xs
end
section
variable {prog : Program} {w : World} {A : Around} {E : Value → Shared → Prop} {s : Shared}
theorem elem_str {l : List (Int × Value)} (h : ElemsOf (PySem.strKind prog w) l) {e : Int × Value} (he : e ∈ l) : ∃ tk, e.2 = .str (keyStr e) tk := by
 obtain ⟨⟨k, hk, _⟩, _⟩ := h e he
 obtain ⟨t, ht⟩ := Value.isStrOf_shape hk
 exact ⟨t, by unfold keyStr; rw [ht]; rfl⟩
theorem is_key {l : List (Int × Value)} (h : ElemsOf (PySem.strKind prog w) l) {e : Int × Value} (he : e ∈ l) (k : Str) : (PySem.strKind prog w).is k e.2 = true ↔ k = keyStr e := by
 obtain ⟨t, ht⟩ := elem_str h he
 constructor
 ·intro hk
  obtain ⟨u, hu⟩ := Value.isStrOf_shape hk
  rw [ht] at hu; cases hu; rfl
 ·rintro rfl
  rw [ht]; show Value.isStrOf _ (.str _ t) = true
  simp [Value.isStrOf]
theorem TabX.size {es : Array (Int × Value)} {t : SetTable} {xs : List Str} (h : TabX prog w es t xs) : es.size = xs.length := by
 rw [← h.perm.length_eq, List.length_map, Array.length_toList]
theorem orStandIn_led (t : SetTable) (n : Nat) : (t.orStandIn n).led = t.led ∧ (t.plain = false → (t.orStandIn n).plain = false) := by
 unfold SetTable.orStandIn; split
 ·exact ⟨rfl, id⟩
 ·exact ⟨rfl, fun _ => rfl⟩
theorem layNew_led (t : SetTable) (es : Array (Int × Value)) (h : Int) (x : Value) :
  (layNew t es h x).2.1.led = t.led ∧ (t.plain = false → (layNew t es h x).2.1.plain = false) := by
 unfold layNew
 split
 ·exact ⟨(orStandIn_led _ _).1, fun hp => (orStandIn_led _ _).2 hp⟩
 ·exact ⟨rfl, fun _ => rfl⟩
theorem laid_led {mask finger moves : Nat} {led plain : Bool} {hs : Array Int} {r : SetTable × Array Nat} (h : SetTable.laid mask finger moves led plain hs = some r) : r.1.led = led ∧ r.1.plain = plain := by
 unfold SetTable.laid at h
 cases hc : SetTable.layClean mask hs with
 | none => rw [hc] at h; cases h
 | some o => rw [hc] at h; cases h; exact ⟨rfl, rfl⟩
theorem relayAll_led (t : SetTable) (es : Array (Int × Value)) (n : Nat) :
  (relayAll t es n).2.1.led = t.led ∧ (t.plain = false → (relayAll t es n).2.1.plain = false) := by
 unfold relayAll
 split
 ·rename_i t' order e
  have := laid_led e
  dsimp only
  split
  ·exact ⟨this.1, fun hp => this.2.trans hp⟩
  ·exact ⟨rfl, fun _ => rfl⟩
 ·exact ⟨rfl, fun _ => rfl⟩
theorem TabX.perm_es {es es' : Array (Int × Value)} {t t' : SetTable} {xs : List Str} (h : TabX prog w es t xs) (hp : es'.toList.Perm es.toList) (hf : t'.fits es'.size = true) (hl : t'.led = t.led) (hq : t'.plain = false) : TabX prog w es' t' xs :=
 ⟨h.el.perm hp, (hp.map keyStr).trans h.perm, hf, hl.trans h.led, .inr hq⟩
theorem storeX {h : Heap} {a : Addr} {es es' : Array (Int × Value)} {ep : Nat} {t t' : SetTable} (ho : h.get? a = some { cls := .type "set", dict := none, data := .set es ep t, slots := #[] }) :
  (h.update a (Obj.putSet es' t')).get? a = some { cls := .type "set", dict := none, data := .set es' (ep + 1) t', slots := #[] } := by
 have := Heap.get?_update_self (Obj.putSet es' t') ho (by rw [putSet_of es' t' rfl]; rfl)
 rw [putSet_of es' t' rfl] at this; exact this
theorem setX_add {a : Addr} {xs : List Str} {x : Str} {tk : Tok} {Q : Bool → Shared → Prop} (hS : SetX prog w s.heap a xs) (hroom : xs.length + 1 < scanBound)
  (h : ∀ h' b, Heap.SameBut a s.heap h' → SetX prog w h' a (if x ∈ xs then xs else xs ++ [x]) → Q b { s with heap := h' }) :
  wpAny (model prog w) A (setAddHashed a (.str x tk) ((PySem.strKind prog w).hash x)) Q E s := by
 obtain ⟨es, ep, t, ho, T⟩ := hS
 have hsz := T.size
 have hkey : (PySem.strKind prog w).is x (.str x tk) = true := by show Value.isStrOf x (.str x tk) = true; simp [Value.isStrOf]
 have hsc : (Value.str x tk).scannable = true := rfl
 unfold setAddHashed setAddHashedIn
 refine wpAny_holding (wpAny_bind (wpAny_setState_of ho rfl T.fits ?_))
 dsimp only
 rw [byScan_of hsc (by omega) T.el]
 simp only [↓reduceIte]
 unfold setAddByScan
 refine wpAny_bind ?_
 refine wpAny_bind (wpAny_rule ?_)
 refine wpAny_bind (wpAny_setScan_of hkey ho rfl T.fits T.el ?_)
 have hin : ∀ e ∈ es.toList, (PySem.strKind prog w).is x e.2 = true → x ∈ xs := fun e he hx => by
  rw [(is_key T.el he x).mp hx]; exact T.perm.mem_iff.mp (List.mem_map_of_mem he)
 cases hr : List.findIdx? (fun e => (PySem.strKind prog w).is x e.2) es.toList with
 | some j =>
  dsimp only
  obtain ⟨hj, hpj, _⟩ := List.findIdx?_eq_some_iff_getElem.mp hr
  have hx : x ∈ xs := hin _ (List.getElem_mem hj) hpj
  refine wpAny_pure (wpAny_pure ?_)
  have := h s.heap false (Heap.SameBut.refl a s.heap) (by rw [if_pos hx]; exact ⟨es, ep, t, ho, T⟩)
  have e : s = { s with heap := s.heap } := by cases s; rfl
  rw [e]; exact this
 | none =>
  dsimp only
  have hx : x ∉ xs := fun hx => by
   obtain ⟨e, he, hk⟩ := List.mem_map.mp (T.perm.mem_iff.mpr hx)
   have := List.findIdx?_eq_none_iff.mp hr e he
   rw [(is_key T.el he x).mpr hk.symm] at this; cases this
  have hperm := layNew_perm t es ((PySem.strKind prog w).hash x) (.str x tk)
  have hfits := layNew_fits t es ((PySem.strKind prog w).hash x) (.str x tk)
  have hled := layNew_led t es ((PySem.strKind prog w).hash x) (.str x tk)
  generalize layNew t es ((PySem.strKind prog w).hash x) (.str x tk) = L at hperm hfits hled ⊢
  obtain ⟨es1, t1, wasDummy, gave⟩ := L
  dsimp only at hperm hfits hled ⊢
  rw [Array.toList_push] at hperm
  have hgw : ∀ (b : Bool) {s₁ : Shared} {Q' : Unit → Shared → Prop}, Q' () s₁ → wpAny (model prog w) A (match b with | true => rule "set.scan.the-table-gave-way" | false => pure ()) Q' E s₁ :=
   fun b s₁ Q' hq => by cases b <;> first | exact wpAny_pure hq | exact wpAny_rule hq
  have T1 : ∀ t2 : SetTable, t2.fits es1.size = true → t2.led = t.led → t2.plain = false → TabX prog w es1 t2 (xs ++ [x]) := fun t2 q1 q2 q3 =>
   ⟨(T.el.push hkey hsc).perm hperm, (hperm.map keyStr).trans (by rw [List.map_append]; exact T.perm.append_right _), q1, q2.trans T.led, .inr q3⟩
  have hb1 : es1.size < scanBound := by rw [← Array.length_toList, hperm.length_eq, List.length_append, Array.length_toList]; simp; omega
  have tail : ∀ t2 : SetTable, t2.fits es1.size = true → t2.led = t.led → t2.plain = false → ∀ (g : Bool → Sem Unit),
    (∀ (b : Bool) (s₁ : Shared) (Q' : Unit → Shared → Prop), Q' () s₁ → wpAny (model prog w) A (g b) Q' E s₁) →
    wpAny (model prog w) A (do
     storeSet a es1 t2
     if (!wasDummy && t2.tooFull) = true then do
       g (relayAll t2 es1 (SetTable.grown es1.size)).2.2
       storeSet a (relayAll t2 es1 (SetTable.grown es1.size)).1 (relayAll t2 es1 (SetTable.grown es1.size)).2.1
       pure (some true)
      else pure (some true)) (fun r s' => ∃ h', r = some true ∧ s' = { s with heap := h' } ∧ Heap.SameBut a s.heap h' ∧ SetX prog w h' a (xs ++ [x])) E s := by
   intro t2 q1 q2 q3 g hg
   have hsb1 := Heap.SameBut.update s.heap a (Obj.putSet es1 t2)
   have ho1 := storeX (es' := es1) (t' := t2) ho
   refine wpAny_bind (wpAny_storeSet_of ho rfl ?_ (fits_of_scanBound hb1))
   split
   ·refine wpAny_bind (hg _ _ _ ?_)
    have hp := relayAll_perm t2 es1 (SetTable.grown es1.size)
    refine wpAny_bind (wpAny_storeSet_of ho1 rfl ?_ (fits_of_scanBound (by rw [← Array.length_toList, hp.length_eq, Array.length_toList]; exact hb1)))
    exact wpAny_pure ⟨_, rfl, rfl, hsb1.trans (Heap.SameBut.update _ a _), _, _, _, storeX ho1,
     (T1 t2 q1 q2 q3).perm_es hp (relayAll_fits ..) (relayAll_led ..).1 ((relayAll_led ..).2 q3)⟩
   ·exact wpAny_pure ⟨_, rfl, rfl, hsb1, _, _, _, ho1, T1 t2 q1 q2 q3⟩
  have fin : ∀ r s', (∃ h', r = some true ∧ s' = { s with heap := h' } ∧ Heap.SameBut a s.heap h' ∧ SetX prog w h' a (xs ++ [x])) →
    wpAny (model prog w) A (match r with | some added => pure added | none => setAddHashedIn a (.str x tk) ((PySem.strKind prog w).hash x) 99999) Q E s' := by
   rintro r s' ⟨h', rfl, rfl, q1, q2⟩
   refine wpAny_pure (h h' true q1 ?_)
   rw [if_neg hx]; exact q2
  refine wpAny_bind (hgw _ ?_)
  split
  ·rename_i hpl
   refine wpAny_bind ?_
   rw [hashByValue_scannable 8 hsc]
   refine wpAny_pure ?_
   refine wpAny_mono (tail { t1 with plain := false } (SetTable.fits_plain_off hfits) hled.1 rfl _ fun b s₁ Q' hq => by cases b <;> first | exact wpAny_pure hq | exact wpAny_rule hq) fin fun _ _ e => e
  ·rename_i hpl
   refine wpAny_bind (wpAny_pure ?_)
   simp only [↓reduceIte]
   refine wpAny_mono (tail t1 hfits hled.1 (by simpa using hpl) _ fun b s₁ Q' hq => by cases b <;> first | exact wpAny_pure hq | exact wpAny_rule hq) fin fun _ _ e => e
end
end Mine
end
section
namespace Mine
open PySem PySem.W PyProof.Rows PySem.Calls PySem.F
noncomputable def addStr (acc : List Str) (x : Str) : List Str := if x ∈ acc then acc else acc ++ [x]
noncomputable def strSet (ys : List Str) : List Str := ys.foldl addStr []
theorem addStr_length (acc : List Str) (x : Str) : (addStr acc x).length ≤ acc.length + 1 := by
 unfold addStr; split <;> simp
theorem strSet_length (ys : List Str) : ∀ acc : List Str, (ys.foldl addStr acc).length ≤ acc.length + ys.length := by
 induction ys with
 | nil => intro acc; simp
 | cons y ys ih => intro acc; have := ih (addStr acc y); have := addStr_length acc y; simp only [List.foldl_cons, List.length_cons]; lia
theorem addStr_nodup {acc : List Str} {x : Str} (h : acc.Nodup) : (addStr acc x).Nodup := by
 unfold addStr; split
 ·exact h
 ·rename_i hx
  rw [List.nodup_append]; exact ⟨h, by simp, fun a ha b hb => by simp at hb; subst hb; exact fun e => hx (e ▸ ha)⟩
theorem strSet_nodup (ys : List Str) : ∀ acc : List Str, acc.Nodup → (ys.foldl addStr acc).Nodup := by
 induction ys with
 | nil => intro acc h; exact h
 | cons y ys ih => intro acc h; exact ih _ (addStr_nodup h)
theorem mem_addStr {acc : List Str} {x y : Str} : y ∈ addStr acc x ↔ y ∈ acc ∨ y = x := by
 unfold addStr; split
 ·rename_i hx; constructor
  ·exact .inl
  ·rintro (h | rfl); exact h; exact hx
 ·simp
theorem mem_strSet (ys : List Str) : ∀ (acc : List Str) (y : Str), y ∈ ys.foldl addStr acc ↔ y ∈ acc ∨ y ∈ ys := by
 induction ys with
 | nil => intro acc y; simp
 | cons x ys ih => intro acc y; rw [List.foldl_cons, ih, mem_addStr, List.mem_cons]; exact or_assoc
section
variable {prog : Program} {w : World} {A : Around} {R : Result → Shared → Prop} {I : Addr} {fp wr : List Addr} {GG : Array GenState → Array GenState → Prop} {St : Nat → Shared → Prop}
theorem walks_imp {n n' : Nat} {P P' : Nat → Value → Prop} (W : WalksS prog w A I fp wr GG n P St) (hn : n = n') (hP : ∀ i v, P i v → P' i v) : WalksS prog w A I fp wr GG n' P' St := by
 subst hn
 exact { W with item := fun i s Q E hlt hst hQ => W.item i s Q E hlt hst fun v s' q => hQ v s' (hP i v q) }
theorem SetX.get_of {h h' : Heap} {a : Addr} {xs : List Str} (hS : SetX prog w h a xs) (e : ∀ o, h.get? a = some o → h'.get? a = some o) : SetX prog w h' a xs :=
 let ⟨es, ep, t, ho, T⟩ := hS; ⟨es, ep, t, e _ ho, T⟩
theorem take_succ_foldl {ys : List Str} {i : Nat} {y : Str} (e : ys[i]? = some y) : (ys.take (i + 1)).foldl addStr [] = addStr ((ys.take i).foldl addStr []) y := by
 rw [List.take_add_one, e, List.foldl_append]; rfl
theorem update_loopX {ys : List Str} (W : WalksS prog w A.in1 I fp wr GG ys.length (fun i v => ∃ y t, ys[i]? = some y ∧ v = .str y t) St) (a : Addr) (haf : a ∉ fp) (hb : ys.length + 1 < scanBound) :
  ∀ (k i : Nat) (s : Shared), ys.length - i = k → i ≤ ys.length → St i s → SetX prog w s.heap a ((ys.take i).foldl addStr []) →
   (∀ s', Moved (a :: wr) GG s s' → SetX prog w s'.heap a (strSet ys) → R (.ok (.ret .none)) s') →
   codeAny (model prog w) A (.builtin "set.update.loop" ⟨[.ref a, .ref I], []⟩) R s := by
 have hSw : a ∉ wr := fun h => haf (W.sub _ h)
 have hsub : ∀ b ∈ wr, b ∈ a :: wr := fun b hb => List.mem_cons_of_mem _ hb
 intro k
 induction k with
 | zero =>
  intro i s hk hi hst hS hR
  have hin : i = ys.length := by lia
  subst hin
  refine codeAny_builtin F.entry_set_update_loop ?_
  rw [Around.under_plainId F.plain_set_update_loop _]
  show wpAny _ A.in1 (pyNext (.ref I) >>= _) _ _ s
  refine wpAny_bind (W.done s _ _ hst fun s' hm => ?_)
  show wpAny _ A.in1 (ret Value.none) _ _ s'
  exact wpAny_pure (hR s' (hm.mono hsub) (by
   rw [List.take_length] at hS
   exact hS.get_of fun o e => hm.heap a _ hSw e))
 | succ k ih =>
  intro i s hk hi hst hS hR
  have hlt : i < ys.length := by lia
  refine codeAny_builtin F.entry_set_update_loop ?_
  rw [Around.under_plainId F.plain_set_update_loop _]
  show wpAny _ A.in1 (pyNext (.ref I) >>= _) _ _ s
  refine wpAny_bind (W.item i s _ _ hlt hst fun v s' hP hst' hm => ?_)
  obtain ⟨y, t, hy, rfl⟩ := hP
  have hS' := hS.get_of fun o e => hm.heap a _ hSw e
  show wpAny _ A.in1 (holding [Value.str y t] (setAdd a (.str y t)) >>= _) _ _ s'
  refine wpAny_bind (wpAny_holding ?_)
  unfold setAdd
  refine wpAny_holding ?_
  refine wpAny_bind ((PySem.strKind prog w).pyHash (k := y) (by show Value.isStrOf y (.str y t) = true; simp [Value.isStrOf]) ?_)
  have hl := strSet_length (ys.take i) []
  refine setX_add (prog := prog) (s := { s' with toks := s'.toks + 1 }) hS' (by simp at hl; lia) fun h' b hsb hS2 => ?_
  replace hS2 : SetX prog w h' a ((ys.take (i + 1)).foldl addStr []) := by rw [take_succ_foldl hy]; exact hS2
  refine wpAny_pure ⟨plainId_quiet F.plain_set_update_loop _, ih (i + 1) _ (by lia) hlt (W.frame _ s' _ _ hst' (Nat.le_succ _) fun b hb o e => ?_) hS2 fun s'' hm'' hS'' => ?_⟩
  ·rw [hsb.2 b (fun h : b = a => haf (by rw [← h]; exact hb))]; exact e
  ·refine hR s'' (Moved.trans W.gtrans ((hm.mono hsub).then_heap (Nat.le_succ _) fun b o hb e => ?_) hm'') hS''
   rw [hsb.2 b (fun h : b = a => hb (by rw [h]; exact List.mem_cons_self))]; exact e
end
section
variable {prog : Program} {w : World} {A : Around} {E : Value → Shared → Prop} {s : Shared}
theorem tabX_nil : TabX prog w #[] (.fresh 0 0 (!byText w)) [] := ⟨fun e he => by simp at he, by simp, by rfl, rfl, .inl rfl⟩
noncomputable abbrev freshSet (w : World) : Obj := { cls := .type "set", dict := none, data := .set #[] 0 (.fresh 0 0 (!byText w)) }
theorem set_new_1 (a : Value) {Q₁ : Value → Shared → Prop} (h : Q₁ (.ref s.heap.objs.size) { s with heap := s.heap.push (freshSet w) }) :
  codeAny (model prog w) A (.call (.builtin "set.__new__") ⟨[.type "set", a], []⟩) (wants Q₁ E) s := by
 refine codeAny_of_tree ?_
 show wpAny _ A.in1 (do checkBuiltinCall "set.__new__" ⟨[.type "set", a], []⟩; again (.builtin "set.__new__" ⟨[.type "set", a], []⟩)) _ _ s
 refine wpAny_bind (wpAny_of_eq (F.newCall_set_1 a) (wpAny_pure ⟨plainId_quiet F.plain_set_new _, codeAny_builtin F.entry_set_new ?_⟩))
 rw [Around.under_plainId F.plain_set_new _]
 unfold Builtin.«set.__new__» Builtin.Frozenset.newClass
 have hsub := sub_set_self
 obtain ⟨hp, g, d, tk, os⟩ := s
 dsimp only
 wp_walk
 refine wpAny_askSetting (wpAny_pure ?_)
 dsimp only
 simp only [newObj]
 refine wpAny_bind (wpAny_alloc (wpAny_pure ?_))
 exact wpAny_pure h
set_option maxHeartbeats 3200000 in
theorem call_set_strs {l : Addr} {items : Array Value} {ys : List Str} {Q : Value → Shared → Prop}
  (hh : A.handled = none) (hl : s.heap.IsList l items) (hi : StrsAre items.toList ys) (hb : ys.length + 1 < scanBound)
  (h : ∀ (h' : Heap) (tk : Nat), SetX prog w h' s.heap.objs.size (strSet ys) →
   (∀ b o, b < s.heap.objs.size → s.heap.get? b = some o → h'.get? b = some o) → Q (.ref s.heap.objs.size) { s with heap := h', toks := tk }) :
  wpAny (model prog w) A (call (.type "set") [.ref l]) Q E s := by
 obtain ⟨c, tl, hmro⟩ := F.called_set.mro
 have hmade := F.called_set.made
 have hsub := F.called_set.sub
 refine wpAny_call (codeAny_of_tree ?_)
 show wpAny _ _ (callAny (.type "set") _) _ _ _
 refine wpAny_pure ⟨Code.quiet_builtin _ (by decide +kernel), codeAny_builtin F.entry_type_call ?_⟩
 rw [Around.under_plain (weight_type_call_type "set" [.ref l] []) rfl]
 have h1 := F.called_set.notType
 have h2 := F.called_set.canCreate
 have hct := F.typeCall_set_1 (.ref l)
 repeat (any_goals (first | assumption | wp_step))
 refine codeAny_mono (set_new_1 (.ref l) (E := E) (Q₁ := fun obj s₁ => obj = .ref s.heap.objs.size ∧ s₁ = { s with heap := s.heap.push (freshSet w) }) ⟨rfl, rfl⟩) fun r s₁ hr => ?_
 cases r with
 | error e => exact hr
 | ok fl =>
  cases fl with
  | ret obj =>
   obtain ⟨rfl, rfl⟩ := hr
   have hS : (s.heap.push (freshSet w)).get? s.heap.objs.size = some (freshSet w) := Heap.get?_push_size _ rfl
   have hT : Shared.TypeIs { s with heap := s.heap.push (freshSet w) } (.ref s.heap.objs.size) "set" := ⟨_, hS, rfl⟩
   have hli := F.called_set.init.lookup
   have hbi := F.called_set.init.bind (.ref s.heap.objs.size)
   repeat (any_goals (first | assumption | wp_step))
   refine codeAny_mono (codeAny_call_builtin (R := wants (fun r s₂ => r = .none ∧ ∃ h' tk, s₂ = { s with heap := h', toks := tk } ∧ SetX prog w h' s.heap.objs.size (strSet ys) ∧
     (∀ b o, b < s.heap.objs.size → s.heap.get? b = some o → h'.get? b = some o)) E) F.called_set.init.plain F.entry_set_init (check_set_init_1 hT ?_)) fun r₂ s₂ hr₂ => ?_
   ·obtain ⟨ol, hol, hcl, nl, hdl⟩ := hl
    obtain ⟨ocls, odict, odata, oslots⟩ := ol
    simp only at hcl hdl
    subst hcl; subst hdl
    have hol' : (s.heap.push (freshSet w)).get? l = some { cls := .type "list", dict := odict, data := .seq items nl, slots := oslots } := Heap.get?_push_of_some _ hol
    have hsls := F.sub_list_set
    have hslf := F.sub_list_frozenset
    have hne : (Value.type "list" == Value.type "dict") = false := by decide
    have hl1 : (s.heap.push (freshSet w)).IsList l items := ⟨_, hol', rfl, nl, rfl⟩
    unfold Builtin.«set.__init__» noKeywords Builtin.Frozenset.updateFrom
    generalize hPI : pyIter = PI
    wp_walk
    subst hPI
    refine wpAny_pyIter_list hl1 ?_
    refine wpAny_bind (wpAny_runValue ?_)
    have hlS : l < s.heap.objs.size := Heap.lt_size hol
    have hh3 : A.in1.in1.in1.handled = none := by simp [hh]
    have hneI : l ≠ (s.heap.push (freshSet w)).objs.size := by
     rw [Heap.size_push]; exact Nat.ne_of_lt (Nat.lt_succ_of_lt hlS)
    have hSf : s.heap.objs.size ∉ [(s.heap.push (freshSet w)).objs.size, l] := by
     rw [Heap.size_push]; simp only [List.mem_cons, List.mem_singleton, List.not_mem_nil, or_false, not_or]
     exact ⟨Nat.ne_of_lt (Nat.lt_succ_self _), Nat.ne_of_gt hlS⟩
    have hlen : items.size = ys.length := by rw [← Array.length_toList]; exact StrsAre.len_eq hi
    have W0 := (Walks.list (prog := prog) (w := w) (A := A.in1.in1.in1) hh3 (s.heap.push (freshSet w)).objs.size l hneI items).toS
    have W := walks_imp W0 hlen (P' := fun i v => ∃ y t, ys[i]? = some y ∧ v = .str y t) fun i v hP => by
     obtain ⟨y, t, e1, e2⟩ := StrsAre.item hi i v (by rw [Array.getElem?_toList]; exact hP)
     exact ⟨y, t, e2, e1⟩
    refine update_loopX W s.heap.objs.size hSf hb (ys.length - 0) 0 _ (by lia) (Nat.zero_le _)
     ⟨⟨_, Heap.get?_push_size _ rfl, rfl, rfl⟩, (hl1.push _)⟩ ?hS0 ?hR
    case hS0 =>
     exact ⟨#[], 0, _, Heap.get?_push_of_some _ hS, by simpa using tabX_nil⟩
    case hR =>
     intro s' hm hS'
     obtain ⟨h', g', d', tk', os'⟩ := s'
     have eg : g' = s.gens := hm.gens
     have ed : d' = s.drawn := hm.drawn
     have eo : os' = s.os := hm.os
     subst eg; subst ed; subst eo
     show wpAny _ _ _ _ _ _
     refine wpAny_pure ?_
     show wpAny _ _ (ret Value.none) _ _ _
     refine wpAny_pure ⟨rfl, h', tk', rfl, hS', fun b o hb e => ?_⟩
     have hb1 : b ≠ s.heap.objs.size := Nat.ne_of_lt hb
     have hb2 : b ≠ (s.heap.push (freshSet w)).objs.size := by
      rw [Heap.size_push]; exact Nat.ne_of_lt (Nat.lt_succ_of_lt hb)
     exact hm.heap b o (by simp only [List.mem_cons, List.mem_singleton, List.not_mem_nil, or_false, not_or]; exact ⟨hb1, hb2⟩) (Heap.get?_push_of_some _ (Heap.get?_push_of_some _ e))
   ·cases r₂ with
    | error e => exact hr₂
    | ok fl₂ =>
     cases fl₂ with
     | ret r =>
      obtain ⟨rfl, h', tk, rfl, hS', hk'⟩ := hr₂
      repeat (any_goals (first | assumption | wp_step))
      exact h _ _ hS' hk'
     | _ => exact hr₂.elim
  | _ => exact hr.elim
end
end Mine
end
section
namespace Mine
open PySem PySem.W PyProof.Rows PySem.Calls
structure Go (prog : Program) (w : World) (A : Around) (s1 s2 : Shared) (I L : Addr) (Rel : List Value → Prop) : Prop where
 ex : ∃ (fp wr : List Addr) (n : Nat) (P : Nat → Value → Prop) (St : Nat → Shared → Prop), WalksS prog w A I fp wr (fun a b => b = a) n P St ∧ St 0 s2 ∧ L ∉ fp ∧ n ≤ sizeLine ∧
  (∀ b ∈ wr, s1.heap.get? b = none) ∧ ∀ acc, ItemsOf P acc n → Rel acc.toList
 keep : ∀ b o, s1.heap.get? b = some o → s2.heap.get? b = some o
 gens : s2.gens = s1.gens
 os : s2.os = s1.os
theorem setlen : typeLookup (.type "set") "__len__" = pure (some (.builtin "set.__len__")) := by rw [typeLookup_type, builtinLookup_eq_fast]; kernel_rfl
theorem dictlen : typeLookup (.type "dict") "__len__" = pure (some (.builtin "dict.__len__")) := by rw [typeLookup_type, builtinLookup_eq_fast]; kernel_rfl
section
variable {prog : Program} {w : World} {A : Around} {E : Value → Shared → Prop} {s : Shared}
theorem collect_any {v : Addr} {T : String} {Q : List Value → Shared → Prop} {Rel : List Value → Prop} (hTT : T = "set" ∨ T = "dict") (hT : s.TypeIs (.ref v) T)
  (hiter : ∀ (Q1 : Value → Shared → Prop) (E1 : Value → Shared → Prop), (∀ s2 I, Go prog w A.in1 { s with heap := s.heap.push (seqObj "list" #[] 0) } s2 I s.heap.objs.size Rel → Q1 (.ref I) s2) →
   wpAny (model prog w) A.in1 (pyIter (.ref v)) Q1 E1 { s with heap := s.heap.push (seqObj "list" #[] 0) })
  (hQ : ∀ vs s', Rel vs → (∀ b o, s.heap.get? b = some o → s'.heap.get? b = some o) → s'.gens = s.gens → s'.os = s.os → Q vs s') :
  wpAny (model prog w) A (collect (.ref v)) Q E s := by
 obtain ⟨o, ho, hc⟩ := id hT
 have hv : s.heap.objs.size ≠ v := Nat.ne_of_gt (Heap.lt_size ho)
 unfold collect
 refine wpAny_bind (wpAny_runValue (codeAny_builtin F.entry_proto_collect ?_))
 rw [Around.under_plainId F.plain_proto_collect _]
 show wpAny _ A.in1 (newList [] >>= fun l => again (.builtin "list.__iadd__" ⟨[l, .ref v], []⟩)) _ _ s
 refine wpAny_bind (wpAny_newList ?_)
 refine wpAny_pure ⟨plainId_quiet F.plain_list_iadd _, codeAny_builtin F.entry_list_iadd ?_⟩
 rw [Around.under_plainId F.plain_list_iadd _]
 have hS₁ : (s.heap.push (seqObj "list" #[] 0)).get? s.heap.objs.size = some (seqObj "list" #[] 0) := Heap.get?_push_size _ rfl
 have h1 : Builtin.List.listSameRef (.ref s.heap.objs.size) (.ref v) = false := by simp [Builtin.List.listSameRef, hv]
 show wpAny _ A.in1 (Builtin.List.listExtendWith (.ref s.heap.objs.size) (.ref v) (.ref s.heap.objs.size)) _ _ { s with heap := s.heap.push (seqObj "list" #[] 0) }
 unfold Builtin.List.listExtendWith
 have hT1 : Shared.TypeIs { s with heap := s.heap.push (seqObj "list" #[] 0) } (.ref v) T := ⟨o, Heap.get?_push_of_some _ ho, hc⟩
 refine wpAny_bind (wpAny_typeOf hT1 ?_)
 have go : ∀ {s2 : Shared} {I : Addr}, Go prog w A.in1 { s with heap := s.heap.push (seqObj "list" #[] 0) } s2 I s.heap.objs.size Rel →
   codeAny (model prog w) A (.builtin "list.extend.loop" ⟨[.ref s.heap.objs.size, .ref I, .ref s.heap.objs.size], []⟩)
    (fun r s' => ∃ acc c', r = .ok (.ret (.ref s.heap.objs.size)) ∧ s'.heap.get? s.heap.objs.size = some (seqObj "list" acc c') ∧ Rel acc.toList ∧ (∀ b o, s.heap.get? b = some o → s'.heap.get? b = some o) ∧ s'.gens = s.gens ∧ s'.os = s.os)
    { s2 with heap := (s2.heap.update s.heap.objs.size (Obj.mapSeq (·.push Value.none))).update s.heap.objs.size (Obj.mapSeq (·.pop)) } := by
  intro s2 I g
  obtain ⟨⟨fp, wr, n, P, St, W, hst, hLf, hn, hwr, hrel⟩, keep, hg, hos⟩ := g
  have hS2 := keep _ _ hS₁
  have hSa := Heap.get?_update_self (Obj.mapSeq (·.push Value.none)) hS2 rfl
  have hS3 := Heap.get?_update_self (Obj.mapSeq (·.pop)) hSa rfl
  have oth : ∀ b o, b ≠ s.heap.objs.size → s2.heap.get? b = some o →
    ((s2.heap.update s.heap.objs.size (Obj.mapSeq (·.push Value.none))).update s.heap.objs.size (Obj.mapSeq (·.pop))).get? b = some o :=
   fun b o hb e => (Heap.get?_update_other _ _ (Ne.symm hb)).trans ((Heap.get?_update_other _ _ (Ne.symm hb)).trans e)
  refine codeAny_extend_loopS W hn _ hLf _ n 0 _ _ _ rfl (Nat.zero_le _)
   (W.frame 0 s2 _ s2.toks hst (Nat.le_refl _) fun b hb o e => oth b o (fun h => hLf (h ▸ hb)) e) hS3 (ItemsOf.nil P) fun s' acc' c' hm hS' hacc => ?_
  refine ⟨acc', c', rfl, hS', hrel _ hacc, fun b o e => ?_, hm.gens.trans hg, hm.os.trans hos⟩
  have hb1 : b ≠ s.heap.objs.size := Nat.ne_of_lt (Heap.lt_size e)
  have e1 : (s.heap.push (seqObj "list" #[] 0)).get? b = some o := Heap.get?_push_of_some _ e
  refine hm.heap b o (fun hm' => ?_) (oth b o hb1 (keep b o e1))
  rcases List.mem_cons.mp hm' with h | h
  ·exact hb1 h
  ·rw [show (s.heap.push (seqObj "list" #[] 0)).get? b = none from hwr b h] at e1; cases e1
 rcases hTT with rfl | rfl
 all_goals
  rw [if_neg (by rw [h1]; decide)]
  refine wpAny_bind (hiter _ _ fun s2 I g => ?_)
  have hT2 : s2.TypeIs (.ref v) _ := ⟨o, g.keep _ _ (Heap.get?_push_of_some _ ho), hc⟩
  refine wpAny_bind (wpAny_holding ?_)
  unfold Builtin.List.listLengthHint
  refine wpAny_bind (wpAny_specialOf hT2 (by first | exact setlen | exact dictlen) ?_)
  first
   | (generalize hid : ("set.__len__" : String) = id0; wp_delta; rw [show splitId id0 = some ("set", "__len__") from by subst hid; decide +kernel]; subst hid)
   | (generalize hid : ("dict.__len__" : String) = id0; wp_delta; rw [show splitId id0 = some ("dict", "__len__") from by subst hid; decide +kernel]; subst hid)
  refine wpAny_bind (wpAny_isInstance (b := true) hT2 (by rw [isSubtype_type]; kernel_rfl) ?_)
  refine wpAny_bind (wpAny_typeOf hT2 ?_)
  refine wpAny_pure ?_
  rw [if_pos (by decide)]
  refine wpAny_bind (wpAny_rule ?_)
  have hS2 := g.keep _ _ hS₁
  have hSa := Heap.get?_update_self (Obj.mapSeq (·.push Value.none)) hS2 rfl
  refine wpAny_bind ?_
  show wpAny _ A.in1 (updateSeq s.heap.objs.size (·.push .none) >>= fun _ => updateSeq s.heap.objs.size (·.pop)) _ _ _
  refine wpAny_bind (wpAny_updateSeq hS2 rfl ?_)
  refine wpAny_updateSeq hSa rfl ?_
  refine wpAny_pure ⟨plainId_quiet F.plain_extend_loop _, codeAny_mono (go g) fun r s' q => ?_⟩
  obtain ⟨acc, c', rfl, hL, hr, hk, hg, hos⟩ := q
  show wpAny _ A (load s.heap.objs.size >>= _) _ _ s'
  refine wpAny_bind (wpAny_load hL ?_)
  exact wpAny_pure (hQ _ _ hr hk hg hos)
end
end Mine
end
section
namespace Mine
open PySem PySem.W PyProof.Rows PySem.Calls
theorem entry_set_iter : entryFor table "set.__iter__" = some Builtin.«frozenset.__iter__» :=
 entryFor_alias (id' := "frozenset.__iter__") (by kernel_rfl) rfl (by decide +kernel) (by kernel_rfl)
theorem entry_seti_iter : entryFor table "set_iterator.__iter__" = some Builtin.«dict_keyiterator.__iter__» :=
 entryFor_alias (id' := "dict_keyiterator.__iter__") (by kernel_rfl) rfl (by decide +kernel) (by kernel_rfl)
theorem entry_seti_next : entryFor table "set_iterator.__next__" = some Builtin.«set_iterator.__next__» := entryFor_of_tree (by kernel_rfl)
theorem slot_seti_next : Slot "set_iterator" "__next__" "set_iterator.__next__" :=
 .of (owner := "set_iterator") (n := "__next__") (by rw [typeLookup_type, builtinLookup_eq_fast]; kernel_rfl) (by decide +kernel) (by decide +kernel) (by decide +kernel)
  (by first | exact .inl (by decide +kernel) | exact .inr (by decide +kernel)) (by rw [isSubtype_type]; kernel_rfl)
theorem args_seti_next (a : Value) : argsOk "set_iterator.__next__" ⟨[a], []⟩ := by unfold argsOk; kernel_rfl
theorem slot_seti_iter : Slot "set_iterator" "__iter__" "set_iterator.__iter__" :=
 .of (owner := "set_iterator") (n := "__iter__") (by rw [typeLookup_type, builtinLookup_eq_fast]; kernel_rfl) (by decide +kernel) (by decide +kernel) (by decide +kernel)
  (by first | exact .inl (by decide +kernel) | exact .inr (by decide +kernel)) (by rw [isSubtype_type]; kernel_rfl)
theorem args_seti_iter (a : Value) : argsOk "set_iterator.__iter__" ⟨[a], []⟩ := by unfold argsOk; kernel_rfl
abbrev setObj (es : Array (Int × Value)) (ep : Nat) (t : SetTable) : Obj := { cls := .type "set", dict := none, data := .set es ep t, slots := #[] }
theorem eraseIdx_perm {α : Type} (l : List α) : ∀ (i : Nat) (h : i < l.length), (l[i] :: l.eraseIdx i).Perm l := by
 induction l with
 | nil => exact fun _ h => nomatch h
 | cons x l ih =>
  intro i h
  cases i with
  | zero => exact .refl _
  | succ i => exact (List.Perm.swap _ _ _).trans (List.Perm.cons _ (ih i (Nat.lt_of_succ_lt_succ h)))
section
variable {M : Model} {A : Around} {E : Value → Shared → Prop} {s : Shared}
theorem wpAny_choose {src : Source} {n : Nat} {Q : Nat → Shared → Prop} (hn : n ≠ 0) (h : ∀ i d, i < n → Q i { s with drawn := d }) : wpAny M A (choose src n) Q E s := fun Γ p _ => by
 show Sem.wp M Γ (.choose src n .pure) _ _ p s
 rw [Sem.wp_choose]
 refine ⟨hn, ?_⟩
 rw [Sem.wp_pure]
 exact h _ _ (Nat.mod_lt _ (Nat.pos_of_ne_zero hn))
theorem wpAny_drawOrder {α : Type} (n : Nat) : ∀ (xs : List α) (s : Shared) (Q : List α → Shared → Prop), n = xs.length → (∀ ys d, ys.Perm xs → Q ys { s with drawn := d }) → wpAny M A (drawOrder n xs) Q E s := by
 induction n with
 | zero =>
  intro xs s Q hn h
  cases List.length_eq_zero_iff.mp hn.symm
  exact wpAny_pure (h [] s.drawn (List.Perm.refl _))
 | succ n ih =>
  intro xs s Q hn h
  cases xs with
  | nil => cases hn
  | cons x xs =>
   unfold drawOrder
   refine wpAny_bind (wpAny_choose (Nat.succ_ne_zero _) fun i d hi => ?_)
   rw [show (x :: xs)[i]? = some (x :: xs)[i] from List.getElem?_eq_getElem hi]
   dsimp only
   refine wpAny_bind (ih _ _ _ (by rw [List.length_eraseIdx_of_lt hi]; exact Nat.succ.inj hn) fun ys d' hp => wpAny_pure ?_)
   exact h _ d' ((List.Perm.cons _ hp).trans (eraseIdx_perm _ _ hi))
end
theorem pickOrder_go {α : Type} (next : Nat → Nat) (fuel : Nat) : ∀ (k : Nat) (left : List α) (out : Array α), fuel = left.length → (pickOrder.go next fuel k left out).toList.Perm (out.toList ++ left) := by
 induction fuel with
 | zero =>
  intro k left out h
  cases List.length_eq_zero_iff.mp h.symm
  rw [List.append_nil]; exact .refl _
 | succ n ih =>
  intro k left out h
  have hi : next k % left.length < left.length := Nat.mod_lt _ (h ▸ Nat.succ_pos _)
  unfold pickOrder.go
  rw [List.getElem?_eq_getElem hi]
  dsimp only
  refine (ih (k + 1) _ _ (by rw [List.length_eraseIdx_of_lt hi, ← h]; rfl)).trans ?_
  rw [Array.toList_push, List.append_assoc]
  exact List.Perm.append_left _ (eraseIdx_perm _ _ hi)
theorem pickOrder_perm {α : Type} (next : Nat → Nat) (xs : Array α) : (pickOrder next xs).toList.Perm xs.toList := by
 unfold pickOrder
 have := pickOrder_go next xs.size 0 xs.toList #[] (by simp)
 simpa using this
noncomputable def OrdAt (w : World) (h : Heap) (a p : Addr) (es : Array (Int × Value)) (ep : Nat) (t : SetTable) (us : List (Int × Value)) (first : Value) (i : Nat) : Prop :=
 (byText w = true ∧ us = (pickOrder (w.params.setOrder a ep) es).toList ∧ first = .int 0 0) ∨
 (byText w = false ∧ ∃ is : List Nat, first = .ref p ∧ h.get? p = some (seqObj "tuple" (is.map fun (i : Nat) => rawInt i).toArray 0) ∧ (∀ k ∈ is, k < es.size) ∧ us = is.filterMap (es[·]?) ∧ us.length = is.length) ∨
 (byText w = false ∧ es.size ≤ 1 ∧ us = es.toList ∧ t.led = true ∧ ∃ slot : Nat, first = .int slot 0 ∧ SetTable.below t.place slot = i ∧ i ≤ es.size)
noncomputable def SetIt (h : Heap) (I a : Addr) (first : Value) (i n ep : Nat) : Prop :=
 ∃ o, h.get? I = some o ∧ o.cls = .type "set_iterator" ∧ o.data = .fields #[first, .int i 0, .ref a, .int n 0, .int ep 0]
theorem filterMap_at {es : Array (Int × Value)} {is : List Nat} (hk : ∀ k ∈ is, k < es.size) (i k : Nat) (h : is[i]? = some k) : ∃ e, es[k]? = some e ∧ (is.filterMap (es[·]?))[i]? = some e := by
 induction is generalizing i with
 | nil => exact none_ne h
 | cons j is ih =>
  have hj : es[j]? = some (es[j]'(hk j (.head _))) := Array.getElem?_eq_getElem (hk j (.head _))
  rw [List.filterMap_cons_some hj]
  cases i with
  | zero => cases h; exact ⟨_, hj, rfl⟩
  | succ i => exact ih (fun k q => hk k (.tail _ q)) i h
section
variable {prog : Program} {w : World} {A : Around} {E : Value → Shared → Prop} {s : Shared}
theorem seti_head {I a : Addr} {es : Array (Int × Value)} {ep : Nat} {t : SetTable} {first : Value} {i : Nat} {Q : Value → Shared → Prop}
  (hI : SetIt s.heap I a first i es.size ep) (ha : s.heap.get? a = some (setObj es ep t)) (hf : t.fits es.size = true)
  (h : wpAny (model prog w) A (do
   if let .int slot _ := first then
    match ← setNext a slot.toNat i ep with
    | some (x, next) =>
     setField (.ref I) 0 (rawInt next)
     setField (.ref I) 1 (rawInt ((i : Int) + 1))
     ret x
    | none => setField (.ref I) 2 .none; raiseNew (← newExc (.type "StopIteration") [])
   else
    let some places ← seqItems? first | unsupported "internal:set_iterator"
    match places[i]? with
    | some (.int place _) =>
     let x ← setNextDrawn a place.toNat ep
     setField (.ref I) 1 (rawInt ((i : Int) + 1))
     ret x
    | some _ => unsupported "internal:set_iterator"
    | none => setField (.ref I) 0 (rawInt 0); setField (.ref I) 2 .none; raiseNew (← newExc (.type "StopIteration") [])) (fun fin s' => ∃ v, fin = .done (.ret v) ∧ Q v s') E s) :
  wpAny (model prog w) A (Builtin.«set_iterator.__next__» ⟨[.ref I], []⟩) (fun fin s' => ∃ v, fin = .done (.ret v) ∧ Q v s') E s := by
 obtain ⟨o, ho, hc, hd⟩ := hI
 unfold Builtin.«set_iterator.__next__»
 refine wpAny_bind (m := slotArgs "__next__" 0 _) (wpAny_pure ?_)
 dsimp only
 refine wpAny_bind (wpAny_fieldsOf ho hd ?_)
 dsimp only
 refine wpAny_bind (wpAny_setEntries_of ha rfl hf ?_)
 rw [if_neg (by simp)]
 exact h
end
end Mine
end
section
namespace Mine
open PySem PySem.W PyProof.Rows PySem.Calls
theorem SetIt.typeIs {s : Shared} {I a : Addr} {first : Value} {i n ep : Nat} (h : SetIt s.heap I a first i n ep) : s.TypeIs (.ref I) "set_iterator" := let ⟨o, ho, hc, _⟩ := h; ⟨o, ho, hc⟩
theorem SetIt.at' {h h' : Heap} {I a : Addr} {first : Value} {i n ep : Nat} (x : SetIt h I a first i n ep) (e : ∀ o, h.get? I = some o → h'.get? I = some o) : SetIt h' I a first i n ep := let ⟨o, ho, r⟩ := x; ⟨o, e _ ho, r⟩
theorem SetIt.turn {h : Heap} {I a : Addr} {first : Value} {i n ep : Nat} (x : SetIt h I a first i n ep) : SetIt (h.update I (Obj.mapFields (·.setIfInBounds 1 (rawInt ((i : Int) + 1))))) I a first (i + 1) n ep :=
 let ⟨o, ho, hc, hd⟩ := x
 ⟨_, Heap.get?_update_self _ ho (Obj.isFreed_of_fields (Obj.data_mapFields hd _)), (Obj.cls_mapFields ..).trans hc, by rw [Obj.data_mapFields hd]; simp [rawInt]⟩
theorem SetIt.seat {h : Heap} {I a : Addr} {first : Value} {i n ep : Nat} (x : SetIt h I a first i n ep) (v : Value) : SetIt (h.update I (Obj.mapFields (·.setIfInBounds 0 v))) I a v i n ep :=
 let ⟨o, ho, hc, hd⟩ := x
 ⟨_, Heap.get?_update_self _ ho (Obj.isFreed_of_fields (Obj.data_mapFields hd _)), (Obj.cls_mapFields ..).trans hc, by rw [Obj.data_mapFields hd]; simp⟩
theorem below_nil (j : Nat) : SetTable.below #[] j = 0 := rfl
theorem below_one0 (j : Nat) : SetTable.below #[j] 0 = 0 := by
 unfold SetTable.below SetTable.below.go
 simp only [List.size_toArray, List.length_cons, List.length_nil, Nat.zero_add, Nat.lt_one_iff, if_true, Nat.div_eq_of_lt (show 1 < 2 by omega)]
 rw [if_neg (Nat.not_lt_zero _)]; rfl
theorem below_one1 (j : Nat) : SetTable.below #[j] (j + 1) = 1 := by
 unfold SetTable.below SetTable.below.go
 simp only [List.size_toArray, List.length_cons, List.length_nil, Nat.zero_add, Nat.lt_one_iff, if_true, Nat.div_eq_of_lt (show 1 < 2 by omega)]
 rw [if_pos (show (#[j] : Array Nat).getD 0 (j + 1) < j + 1 from Nat.lt_succ_self _)]; rfl
theorem fits_size {t : SetTable} {n : Nat} (h : t.fits n = true) : t.place.size = n := by
 simp only [SetTable.fits, Bool.and_eq_true, beq_iff_eq] at h; exact h.1
theorem OrdAt.frame {w : World} {h h' : Heap} {a p : Addr} {es : Array (Int × Value)} {ep : Nat} {t : SetTable} {us : List (Int × Value)} {first : Value} {i : Nat}
  (x : OrdAt w h a p es ep t us first i) (e : ∀ o, h.get? p = some o → h'.get? p = some o) : OrdAt w h' a p es ep t us first i := by
 rcases x with x | ⟨h1, is, h2, h3, h4⟩ | x
 ·exact .inl x
 ·exact .inr (.inl ⟨h1, is, h2, e _ h3, h4⟩)
 ·exact .inr (.inr x)
section
variable {prog : Program} {w : World} {A : Around} {E : Value → Shared → Prop} {s : Shared}
theorem setNext_text {a : Addr} {es : Array (Int × Value)} {ep i slot : Nat} {t : SetTable} {us : List (Int × Value)} {Q : Option (Value × Nat) → Shared → Prop}
  (ha : s.heap.get? a = some (setObj es ep t)) (hf : t.fits es.size = true) (hb : byText w = true) (hu : us = (pickOrder (w.params.setOrder a ep) es).toList)
  (h : Q (us[i]?.map fun e => (e.2, slot)) s) : wpAny (model prog w) A (setNext a slot i ep) Q E s := by
 unfold setNext
 refine wpAny_bind (wpAny_setState_of ha rfl hf ?_)
 dsimp only
 unfold setsByText
 refine wpAny_bind (wpAny_bind (wpAny_askSetting (wpAny_pure ?_)))
 show wpAny _ _ (if byText w = true then _ else _) _ _ _
 rw [if_pos hb, if_neg (by simp)]
 unfold setWalk setsByText
 refine wpAny_bind (wpAny_bind (wpAny_setState_of ha rfl hf ?_))
 refine wpAny_bind (wpAny_bind (wpAny_askSetting (wpAny_pure ?_)))
 show wpAny _ _ (if byText w = true then _ else _) _ _ _
 rw [if_pos hb]
 refine wpAny_bind (wpAny_askSetting ?_)
 refine wpAny_pure (wpAny_pure ?_)
 subst hu
 have : ((pickOrder (w.params.setOrder a ep) es)[i]?.map fun e => (e.2, slot)) = ((pickOrder (w.params.setOrder a ep) es).toList[i]?.map fun e => (e.2, slot)) := by rw [Array.getElem?_toList]
 rw [← this] at h
 exact h
theorem setNext_small {a : Addr} {es : Array (Int × Value)} {ep i slot : Nat} {t : SetTable} {Q : Option (Value × Nat) → Shared → Prop}
  (ha : s.heap.get? a = some (setObj es ep t)) (hf : t.fits es.size = true) (hb : byText w = false) (hs : es.size ≤ 1) (hl : t.led = true)
  (h : Q (match es[SetTable.below t.place slot]?, t.place[SetTable.below t.place slot]? with
   | some (_, x), some j => some (x, j + 1)
   | _, _ => none) s) : wpAny (model prog w) A (setNext a slot i ep) Q E s := by
 unfold setNext
 refine wpAny_bind (wpAny_setState_of ha rfl hf ?_)
 dsimp only
 unfold setsByText
 refine wpAny_bind (wpAny_bind (wpAny_askSetting (wpAny_pure ?_)))
 show wpAny _ _ (if byText w = true then _ else _) _ _ _
 rw [if_neg (by rw [hb]; decide)]
 show wpAny _ _ (if (!t.plain && decide (es.size > 1)) = true then _ else _) _ _ _
 rw [if_neg (by rw [decide_eq_false (by omega)]; simp)]
 show wpAny _ _ ((if (!t.led && !es.isEmpty) = true then unsupported "set:maker-not-led" else pure ()) >>= _) _ _ _
 rw [if_neg (by rw [hl]; simp)]
 refine wpAny_bind (wpAny_pure ?_)
 exact wpAny_pure h
theorem setNextDrawn_at {a : Addr} {es : Array (Int × Value)} {ep k : Nat} {t : SetTable} {e : Int × Value} {Q : Value → Shared → Prop}
  (ha : s.heap.get? a = some (setObj es ep t)) (hf : t.fits es.size = true) (he : es[k]? = some e) (h : Q e.2 s) : wpAny (model prog w) A (setNextDrawn a k ep) Q E s := by
 unfold setNextDrawn
 refine wpAny_bind (wpAny_setState_of ha rfl hf ?_)
 dsimp only
 rw [if_neg (by simp), he]
 exact wpAny_pure h
theorem seti_item {I a p : Addr} {es : Array (Int × Value)} {ep i : Nat} {t : SetTable} {us : List (Int × Value)} {first : Value} {e : Int × Value} {Q : Option Value → Shared → Prop}
  (hI : SetIt s.heap I a first i es.size ep) (ha : s.heap.get? a = some (setObj es ep t)) (hf : t.fits es.size = true) (hne : a ≠ I) (hpI : p ≠ I) (hO : OrdAt w s.heap a p es ep t us first i)
  (he : us[i]? = some e)
  (hQ : ∀ h' first', SetIt h' I a first' (i + 1) es.size ep → OrdAt w h' a p es ep t us first' (i + 1) → Heap.SameBut I s.heap h' → Q (some e.2) { s with heap := h' }) :
  wpAny (model prog w) A (pyNext (.ref I)) Q E s := by
 unfold pyNext
 refine wpAny_bind (wpAny_attempt (wpAny_callSpecial?_slot (name := Str.ofString "__next__") hI.typeIs slot_seti_next
  (wpAny_call_entry slot_seti_next hI.typeIs entry_seti_next (seti_head hI ha hf ?_) (args_seti_next _))))
 obtain ⟨o, ho, hc, hd⟩ := id hI
 have two : ∀ (nx : Nat), (∀ h', (∀ o, s.heap.get? p = some o → h'.get? p = some o) → OrdAt w h' a p es ep t us (rawInt nx) (i + 1)) →
   wpAny (model prog w) A.in1 (do
     setField (.ref I) 0 (rawInt nx)
     setField (.ref I) 1 (rawInt ((i : Int) + 1))
     ret e.2) (fun fin s' => ∃ v, fin = .done (.ret v) ∧ wpAny (model prog w) A (match (Except.ok (some v) : Except Value (Option Value)) with
      | .ok (some v) => pure (some v)
      | .ok none => unsupported "iter:the-iterator's-class-has-lost-its-__next__-amid-the-walk"
      | .error e => do if ← isInstance e (.type "StopIteration") then pure none else throw e) Q E s') (fun e' s' => wpAny (model prog w) A (match (Except.error e' : Except Value (Option Value)) with
      | .ok (some v) => pure (some v)
      | .ok none => unsupported "iter:the-iterator's-class-has-lost-its-__next__-amid-the-walk"
      | .error e => do if ← isInstance e (.type "StopIteration") then pure none else throw e) Q E s') s := by
  intro nx hnx
  refine wpAny_bind (wpAny_setField ho hd (by simp) ?_)
  have h0 := hI.seat (rawInt nx)
  obtain ⟨o1, ho1, _, hd1⟩ := id h0
  refine wpAny_bind (wpAny_setField ho1 hd1 (by simp) ?_)
  refine wpAny_pure ⟨_, rfl, wpAny_pure (hQ _ _ h0.turn (hnx _ fun o e => ?_) ((Heap.SameBut.update ..).trans (Heap.SameBut.update ..)))⟩
  exact (Heap.get?_update_other _ _ hpI.symm).trans ((Heap.get?_update_other _ _ hpI.symm).trans e)
 rcases id hO with ⟨hb, hu, rfl⟩ | ⟨hb, is, rfl, hp, hk, hu, hlen⟩ | ⟨hb, hs, hu, hl, slot, rfl, hbe, hle⟩
 ·refine wpAny_bind (setNext_text ha hf hb hu ?_)
  rw [he]
  exact two 0 fun h' _ => .inl ⟨hb, hu, rfl⟩
 ·have hi : i < is.length := by
   rw [← hlen]
   rcases Nat.lt_or_ge i us.length with h | h
   ·exact h
   ·rw [List.getElem?_eq_none h] at he; cases he
  have hki : is[i]? = some is[i] := List.getElem?_eq_getElem hi
  obtain ⟨e', h1, h2⟩ := filterMap_at hk i _ hki
  rw [← hu, he] at h2; cases h2
  refine wpAny_bind (wpAny_seqItems hp rfl ?_)
  dsimp only
  have hpl : ((is.map fun (i : Nat) => rawInt i).toArray)[i]? = some (rawInt (is[i] : Nat)) := by simp [hki]
  rw [hpl]
  refine wpAny_bind (setNextDrawn_at ha hf h1 ?_)
  refine wpAny_bind (wpAny_setField ho hd (by simp) ?_)
  refine wpAny_pure ⟨_, rfl, wpAny_pure (hQ _ _ hI.turn (hO.imp id fun _ => ?_) (Heap.SameBut.update ..))⟩
  exact .inl ⟨hb, is, rfl, (Heap.get?_update_other _ _ hpI.symm).trans hp, hk, hu, hlen⟩
 ·subst hu
  have hi : i = 0 ∧ es.size = 1 := by
   rcases Nat.lt_or_ge i es.toList.length with h | h
   ·rw [Array.length_toList] at h; omega
   ·rw [List.getElem?_eq_none h] at he; cases he
  obtain ⟨rfl, h1⟩ := hi
  have hps := fits_size hf
  obtain ⟨j, hj⟩ : ∃ j, t.place = #[j] := by
   match hq : t.place, hps with
   | ⟨[j]⟩, _ => exact ⟨j, rfl⟩
   | ⟨[]⟩, hps => simp [h1] at hps
   | ⟨_ :: _ :: _⟩, hps => simp [h1] at hps
  refine wpAny_bind (setNext_small ha hf hb hs hl ?_)
  rw [show SetTable.below t.place ((slot : Int).toNat) = 0 from hbe, show es[0]? = some e by rw [← Array.getElem?_toList]; exact he, show t.place[0]? = some j by rw [hj]; rfl]
  exact two (j + 1) fun h' _ => .inr (.inr ⟨hb, hs, rfl, hl, j + 1, rfl, by rw [hj]; exact below_one1 j, by omega⟩)
theorem stop_tail {I : Addr} {Q : Option Value → Shared → Prop} {h1 : Heap} (hh : A.handled = none) (hb : Heap.SameBut I s.heap h1)
  (hQ : ∀ h', Heap.ExtBut I s.heap h' → Q none { s with heap := h' }) :
  wpAny (model prog w) A.in1 (do raiseNew (← newExc (.type "StopIteration") [])) (fun (fin : Fin) s' => ∃ v, fin = .done (.ret v) ∧ wpAny (model prog w) A (match (Except.ok (some v) : Except Value (Option Value)) with
      | .ok (some v) => pure (some v)
      | .ok none => unsupported "iter:the-iterator's-class-has-lost-its-__next__-amid-the-walk"
      | .error e => do if ← isInstance e (.type "StopIteration") then pure none else throw e) Q E s') (fun e' s' => wpAny (model prog w) A (match (Except.error e' : Except Value (Option Value)) with
      | .ok (some v) => pure (some v)
      | .ok none => unsupported "iter:the-iterator's-class-has-lost-its-__next__-amid-the-walk"
      | .error e => do if ← isInstance e (.type "StopIteration") then pure none else throw e) Q E s') { s with heap := h1 } := by
 refine wpAny_bind ?_
 simp only [newExc, newTuple]
 refine wpAny_bind (wpAny_newObj_type ?_ (by size_fits))
 refine wpAny_bind (m := firstArgMember _ _) (wpAny_of_eq (a := Value.none) (by first | rfl | (simp only [firstArgMember]; rfl)) ?_)
 refine wpAny_newObj_type ?_ (by size_fits)
 simp only [raiseNew]
 refine wpAny_bind (wpAny_handled ?_)
 rw [show A.in1.handled = none from hh]
 refine wpAny_bind (wpAny_pure (wpAny_throw ?_))
 refine wpAny_bind (wpAny_isInstance (T := "StopIteration") (b := true) ⟨_, Heap.get?_push_size _ rfl, rfl⟩ isSubtype_stop ?_)
 exact wpAny_pure (hQ _ ((hb.extBut.push _).push _))
theorem seti_end {I a p : Addr} {es : Array (Int × Value)} {ep i : Nat} {t : SetTable} {us : List (Int × Value)} {first : Value} {Q : Option Value → Shared → Prop} (hh : A.handled = none)
  (hI : SetIt s.heap I a first i es.size ep) (ha : s.heap.get? a = some (setObj es ep t)) (hf : t.fits es.size = true) (hO : OrdAt w s.heap a p es ep t us first i)
  (he : us[i]? = none) (hQ : ∀ h', Heap.ExtBut I s.heap h' → Q none { s with heap := h' }) :
  wpAny (model prog w) A (pyNext (.ref I)) Q E s := by
 unfold pyNext
 refine wpAny_bind (wpAny_attempt (wpAny_callSpecial?_slot (name := Str.ofString "__next__") hI.typeIs slot_seti_next
  (wpAny_call_entry slot_seti_next hI.typeIs entry_seti_next (seti_head hI ha hf ?_) (args_seti_next _))))
 obtain ⟨o, ho, hc, hd⟩ := id hI
 rcases id hO with ⟨hb, hu, rfl⟩ | ⟨hb, is, rfl, hp, hk, hu, hlen⟩ | ⟨hb, hs, hu, hl, slot, rfl, hbe, hle⟩
 ·refine wpAny_bind (setNext_text ha hf hb hu ?_)
  rw [he]
  refine wpAny_bind (wpAny_setField ho hd (by simp) ?_)
  exact stop_tail hh (Heap.SameBut.update ..) hQ
 ·have hi : is.length ≤ i := by
   rw [← hlen]
   exact List.getElem?_eq_none_iff.mp he
  refine wpAny_bind (wpAny_seqItems hp rfl ?_)
  dsimp only
  have hpl : ((is.map fun (i : Nat) => rawInt i).toArray)[i]? = none := by simp [hi]
  rw [hpl]
  refine wpAny_bind (wpAny_setField ho hd (by simp) ?_)
  obtain ⟨o1, ho1, _, hd1⟩ := hI.seat (rawInt 0)
  refine wpAny_bind (wpAny_setField ho1 hd1 (by simp) ?_)
  exact stop_tail (s := s) hh ((Heap.SameBut.update ..).trans (Heap.SameBut.update ..)) hQ
 ·subst hu
  have hi : es.size ≤ i := by have := List.getElem?_eq_none_iff.mp he; simpa using this
  refine wpAny_bind (setNext_small ha hf hb hs hl ?_)
  rw [show SetTable.below t.place ((slot : Int).toNat) = i from hbe, show es[i]? = none by simp [hi]]
  refine wpAny_bind (wpAny_setField ho hd (by simp) ?_)
  exact stop_tail hh (Heap.SameBut.update ..) hQ
end
end Mine
end
section
namespace Mine
open PySem PySem.W PyProof.Rows PySem.Calls
section
variable {prog : Program} {w : World} {A : Around} {E : Value → Shared → Prop} {s : Shared}
theorem set_iter {a : Addr} {es : Array (Int × Value)} {ep : Nat} {t : SetTable} {xs : List Str} {Q : Value → Shared → Prop} (ha : s.heap.get? a = some (setObj es ep t)) (T : TabX prog w es t xs) (hb : xs.length < scanBound)
  (hQ : ∀ h' d I p us first, (∀ b o, s.heap.get? b = some o → h'.get? b = some o) → s.heap.objs.size ≤ I → (p = a ∨ s.heap.objs.size ≤ p) → p ≠ I → us.Perm es.toList → SetIt h' I a first 0 es.size ep →
   OrdAt w h' a p es ep t us first 0 → Q (.ref I) { s with heap := h', drawn := d }) :
  wpAny (model prog w) A (pyIter (.ref a)) Q E s := by
 have hf := T.fits
 have hT : s.TypeIs (.ref a) "set" := ⟨_, ha, rfl⟩
 have hlt : a < s.heap.objs.size := Heap.lt_size ha
 refine wpAny_pyIter_slot hT F.slot_set_iter (wpAny_call_entry F.slot_set_iter hT entry_set_iter ?_ (F.args_set_iter_1 _))
 unfold Builtin.«frozenset.__iter__»
 refine wpAny_bind ?_
 unfold Builtin.Frozenset.slot0
 refine wpAny_bind (m := slotArgs "__iter__" 0 _) (wpAny_pure ?_)
 refine wpAny_pure ?_
 refine wpAny_bind ?_
 unfold Builtin.Frozenset.sizeOf
 refine wpAny_bind (wpAny_setEntries_of ha rfl hf (wpAny_pure ?_))
 refine wpAny_bind ?_
 unfold setDrawn setsByText
 refine wpAny_bind (wpAny_setState_of ha rfl hf ?_)
 dsimp only
 refine wpAny_bind (wpAny_bind (wpAny_askSetting (wpAny_pure ?_)))
 refine wpAny_pure ?_
 show wpAny _ _ (if (!byText w && (!t.plain && decide (es.size > 1))) = true then _ else _) _ _ _
 have hes : es.size = xs.length := T.size
 by_cases hd : (!byText w && (!t.plain && decide (es.size > 1))) = true
 ·rw [if_pos hd]
  simp only [Bool.and_eq_true, Bool.not_eq_true', decide_eq_true_eq] at hd
  refine wpAny_bind (wpAny_drawOrder _ _ _ _ List.length_range.symm fun is d hp => ?_)
  have hlen : is.length = es.size := by rw [hp.length_eq, List.length_range]
  refine wpAny_bind (wpAny_newTuple ?_ (by rw [List.length_map, hlen]; exact Nat.le_trans (Nat.le_of_lt (by rw [hes]; exact hb)) (by rw [sizeLine_eq]; decide)))
  have hak : (s.heap.push (seqObj "tuple" (is.map fun (i : Nat) => rawInt i).toArray 0)).get? a = some (setObj es ep t) := Heap.get?_push_of_some _ ha
  refine wpAny_bind ?_
  unfold setEpoch
  refine wpAny_bind (wpAny_setState_of hak rfl hf (wpAny_pure ?_))
  refine wpAny_bind (wpAny_newObj_type ?_)
  refine wpAny_pure ⟨_, rfl, "set_iterator", _, ⟨_, Heap.get?_push_size _ rfl, rfl⟩, slot_seti_next.lookup, ?_⟩
  have hk : ∀ k ∈ is, k < es.size := fun k hk => List.mem_range.mp (hp.mem_iff.mp hk)
  have hper : (is.filterMap (es[·]?)).Perm es.toList := (hp.filterMap _).trans (by rw [filterMap_getElem?_range])
  refine hQ _ d _ s.heap.objs.size (is.filterMap (es[·]?)) _ (fun b o e => Heap.get?_push_of_some _ (Heap.get?_push_of_some _ e)) (by rw [size_push']; exact Nat.le_succ _) (.inr (Nat.le_refl _)) (by rw [size_push']; exact Nat.ne_of_lt (Nat.lt_succ_self _)) hper
   ⟨_, Heap.get?_push_size _ rfl, rfl, by simp [rawInt]⟩ (.inr (.inl ⟨hd.1, is, rfl, Heap.get?_push_of_some _ (Heap.get?_push_size _ rfl), hk, rfl, ?_⟩))
  rw [hper.length_eq, hlen, Array.length_toList]
 ·rw [if_neg hd]
  refine wpAny_bind (wpAny_pure ?_)
  refine wpAny_bind ?_
  unfold setEpoch
  refine wpAny_bind (wpAny_setState_of ha rfl hf (wpAny_pure ?_))
  refine wpAny_bind (wpAny_newObj_type ?_)
  refine wpAny_pure ⟨_, rfl, "set_iterator", _, ⟨_, Heap.get?_push_size _ rfl, rfl⟩, slot_seti_next.lookup, ?_⟩
  have fin : ∀ us : List (Int × Value), us.Perm es.toList → OrdAt w (s.heap.push { cls := .type "set_iterator", data := .fields [rawInt 0, rawInt 0, Value.ref a, rawInt es.size, rawInt ep].toArray }) a a es ep t us (rawInt 0) 0 →
    Q (.ref s.heap.objs.size) { s with heap := s.heap.push { cls := .type "set_iterator", data := .fields [rawInt 0, rawInt 0, Value.ref a, rawInt es.size, rawInt ep].toArray } } := fun us hp ho =>
   hQ _ s.drawn _ a us _ (fun b o e => Heap.get?_push_of_some _ e) (Nat.le_refl _) (.inl rfl) (Nat.ne_of_lt hlt) hp ⟨_, Heap.get?_push_size _ rfl, rfl, by simp [rawInt]⟩ ho
  cases hb' : byText w with
  | true => exact fin _ (pickOrder_perm _ _) (.inl ⟨hb', rfl, rfl⟩)
  | false =>
   have hs : es.size ≤ 1 := by
    rcases T.plain with rfl | hp
    ·rw [hes]; simp
    ·rw [hb', hp] at hd; simp at hd; exact hd
   refine fin _ (List.Perm.refl _) (.inr (.inr ⟨hb', hs, rfl, by rw [T.led, hb']; rfl, 0, rfl, ?_, Nat.zero_le _⟩))
   have hps := fits_size hf
   match hq : t.place, hps with
   | ⟨[]⟩, _ => exact below_nil 0
   | ⟨[j]⟩, _ => exact below_one0 j
   | ⟨_ :: _ :: _⟩, hps => simp at hps; lia
theorem seti_self {I a : Addr} {first : Value} {i n ep : Nat} {Q : Value → Shared → Prop} (hI : SetIt s.heap I a first i n ep) (h : Q (.ref I) s) : wpAny (model prog w) A (pyIter (.ref I)) Q E s := by
 refine wpAny_pyIter_slot hI.typeIs slot_seti_iter (wpAny_call_entry slot_seti_iter hI.typeIs entry_seti_iter ?_ (args_seti_iter _))
 show wpAny _ _ (ret (.ref I)) _ _ s
 exact wpAny_pure ⟨_, rfl, "set_iterator", _, hI.typeIs, slot_seti_next.lookup, h⟩
theorem walks_set (hh : A.handled = none) (I a p : Addr) (hne : a ≠ I) (hpI : p ≠ I) {es : Array (Int × Value)} {ep : Nat} {t : SetTable} (hf : t.fits es.size = true) (us : List (Int × Value)) (hu : us.length = es.size) :
  Walks prog w A I [I, a, p] [I] us.length (fun i v => ∃ e, us[i]? = some e ∧ v = e.2)
   (fun i h => ∃ first, SetIt h I a first i es.size ep ∧ h.get? a = some (setObj es ep t) ∧ OrdAt w h a p es ep t us first i) where
 sub := fun b hb => by simp at hb; simp [hb]
 frame := fun _ _ _ ⟨first, h1, h2, h3⟩ hk => ⟨first, h1.at' fun o e => hk I (by simp) o e, hk a (by simp) _ h2, h3.frame fun o e => hk p (by simp) o e⟩
 item := fun i s Q E hi ⟨first, h1, h2, h3⟩ hQ => by
  refine seti_item h1 h2 hf hne hpI h3 (List.getElem?_eq_getElem hi) fun h' first' q1 q2 q3 => ?_
  exact hQ _ h' s.toks ⟨_, List.getElem?_eq_getElem hi, rfl⟩ ⟨first', q1, by rw [q3.2 a hne]; exact h2, q2⟩ fun b o hb e => q3.extBut b o (fun h => hb (by simp [h])) e
 done := fun s Q E ⟨first, h1, h2, h3⟩ hQ => seti_end hh h1 h2 hf h3 (by simp) fun h' he' => hQ h' s.toks fun b o hb e => he' b o (fun h => hb (by simp [h])) e
 self := fun _ _ _ _ ⟨first, h1, _⟩ hQ => seti_self h1 hQ
theorem strsAre_us {l : List (Int × Value)} (h : ElemsOf (PySem.strKind prog w) l) : StrsAre (l.map (·.2)) (l.map keyStr) := by
 induction l with
 | nil => exact .nil
 | cons e l ih =>
  obtain ⟨tk, ht⟩ := elem_str h (.head _)
  rw [List.map_cons, List.map_cons, ht]
  exact .cons _ _ (ih h.tail)
theorem itemsOf_list {P : Nat → Value → Prop} {acc : Array Value} {n : Nat} {vs : List Value} (h : ItemsOf P acc n) (hn : n = vs.length) (hP : ∀ i v, P i v → vs[i]? = some v) : acc.toList = vs := by
 apply List.ext_getElem?
 intro i
 rw [Array.getElem?_toList]
 cases e : acc[i]? with
 | some v => exact (hP i v (h.2 i v e)).symm
 | none =>
  have hi : acc.size ≤ i := by simpa using e
  rw [h.1, hn] at hi
  exact (List.getElem?_eq_none hi).symm
theorem collect_setX {a : Addr} {xs : List Str} {Q : List Value → Shared → Prop} (hh : A.handled = none) (hS : SetX prog w s.heap a xs) (hb : xs.length < scanBound)
  (hQ : ∀ vs ss s', StrsAre vs ss → ss.Perm xs → (∀ b o, s.heap.get? b = some o → s'.heap.get? b = some o) → s'.gens = s.gens → s'.os = s.os → Q vs s') :
  wpAny (model prog w) A (collect (.ref a)) Q E s := by
 obtain ⟨es, ep, t, ha, T⟩ := hS
 refine collect_any (.inl rfl) ⟨_, ha, rfl⟩ (Rel := fun vs => ∃ ss, StrsAre vs ss ∧ ss.Perm xs) ?_ fun vs s' ⟨ss, h1, h2⟩ hk hg ho => hQ vs ss s' h1 h2 hk hg ho
 intro Q1 E1 hq
 have hlt : a < s.heap.objs.size := Heap.lt_size ha
 refine set_iter (s := { s with heap := s.heap.push (seqObj "list" #[] 0) }) (Heap.get?_push_of_some _ ha) T hb fun h' d I p us first hk hI hp hpI hper h1 h2 => ?_
 have hul : us.length = es.size := by rw [hper.length_eq, Array.length_toList]
 have hIs : s.heap.objs.size + 1 ≤ I := by rw [← size_push' s.heap (seqObj "list" #[] 0)]; exact hI
 have hps : p = a ∨ s.heap.objs.size + 1 ≤ p := by rw [← size_push' s.heap (seqObj "list" #[] 0)]; exact hp
 refine hq _ I ⟨⟨_, _, _, _, _, (walks_set (prog := prog) (w := w) (A := A.in1) hh I a p (Nat.ne_of_lt (Nat.lt_of_lt_of_le hlt (Nat.le_of_succ_le hIs))) hpI T.fits us hul (ep := ep)).toS, ⟨first, h1, hk _ _ (Heap.get?_push_of_some _ ha), h2⟩, ?_, ?_, ?_, ?_⟩, hk, rfl, rfl⟩
 ·simp only [List.mem_cons, List.not_mem_nil, or_false, not_or]
  refine ⟨Nat.ne_of_lt hIs, Nat.ne_of_gt hlt, ?_⟩
  rcases hps with rfl | h
  ·exact Nat.ne_of_gt hlt
  ·exact Nat.ne_of_lt h
 ·rw [hul, T.size, sizeLine_eq]; unfold scanBound at hb; lia
 ·intro b hb'
  have : b = I := by simpa using hb'
  subst this
  cases hq' : (s.heap.push (seqObj "list" #[] 0)).get? b with
  | none => rfl
  | some o => have := Heap.lt_size hq'; rw [size_push'] at this; exact absurd (Nat.lt_of_lt_of_le this hIs) (Nat.lt_irrefl _)
 ·intro acc hacc
  refine ⟨us.map keyStr, ?_, (hper.map keyStr).trans T.perm⟩
  rw [itemsOf_list (vs := us.map (·.2)) hacc (by simp) (fun i v ⟨e, q1, q2⟩ => by rw [List.getElem?_map, q1, q2]; rfl)]
  exact strsAre_us (T.el.perm hper)
end
end Mine
end
section
namespace Mine
open PySem PySem.W PyProof.Rows PySem.Calls
theorem insInt_perm (x : Int) : ∀ ys, (insInt x ys).Perm (x :: ys)
 | [] => List.Perm.refl _
 | y :: ys => by
  unfold insInt; split
  ·exact List.Perm.refl _
  ·exact (List.Perm.cons y (insInt_perm x ys)).trans (List.Perm.swap _ _ _)
theorem sortInt_perm : ∀ xs, (sortInt xs).Perm xs
 | [] => List.Perm.refl _
 | x :: xs => (insInt_perm x _).trans (List.Perm.cons x (sortInt_perm xs))
theorem insInt_sorted (x : Int) : ∀ ys : List Int, ys.Pairwise (· ≤ ·) → (insInt x ys).Pairwise (· ≤ ·)
 | [], _ => by simp [insInt]
 | y :: ys, h => by
  unfold insInt; split
  ·rename_i hx
   refine List.Pairwise.cons (fun z hz => ?_) h
   rcases List.mem_cons.mp hz with rfl | hz
   ·exact hx
   ·exact Int.le_trans hx (List.rel_of_pairwise_cons h hz)
  ·rename_i hx
   refine List.Pairwise.cons (fun z hz => ?_) (insInt_sorted x ys (List.pairwise_cons.mp h).2)
   rcases List.mem_cons.mp ((insInt_perm x ys).mem_iff.mp hz) with rfl | hz
   ·lia
   ·exact List.rel_of_pairwise_cons h hz
theorem sortInt_sorted : ∀ xs, (sortInt xs).Pairwise (· ≤ ·)
 | [] => List.Pairwise.nil
 | x :: xs => insInt_sorted x _ (sortInt_sorted xs)
theorem sortInt_uniq {xs ys : List Int} (hp : ys.Perm xs) (hs : ys.Pairwise (· ≤ ·)) : ys = sortInt xs :=
 List.Perm.eq_of_pairwise (fun a b _ _ h1 h2 => Int.le_antisymm h1 h2) hs (sortInt_sorted xs) (hp.trans (sortInt_perm xs).symm)
theorem rank_inj {x y : Nm} (h : x.rank = y.rank) : x = y := by
 have key : (allNm.all fun x => allNm.all fun y => decide (x.rank = y.rank → x = y)) = true := by decide +kernel
 have := List.all_eq_true.mp (List.all_eq_true.mp key x (mem_allNm x)) y (mem_allNm y)
 exact of_decide_eq_true this h
theorem rank_le {x y : Nm} (h : (!Spec.ltCps x.txt.cps.toList y.txt.cps.toList) = true) : y.rank ≤ x.rank := by
 have key : (allNm.all fun x => allNm.all fun y => decide ((!Spec.ltCps x.txt.cps.toList y.txt.cps.toList) = true → y.rank ≤ x.rank)) = true := by decide +kernel
 have := List.all_eq_true.mp (List.all_eq_true.mp key x (mem_allNm x)) y (mem_allNm y)
 exact of_decide_eq_true this h
theorem rising_pw : ∀ (p : Nm) (ms : List Nm), risingS p.txt (ms.map Nm.txt) = true → (p :: ms).Pairwise (fun a b => a.rank ≤ b.rank)
 | p, [], _ => by simp
 | p, x :: r, h => by
  rw [List.map_cons] at h
  unfold risingS at h
  rw [Bool.and_eq_true] at h
  have h1 := rank_le h.1
  have h2 := rising_pw x r h.2
  refine List.Pairwise.cons (fun z hz => ?_) h2
  rcases List.mem_cons.mp hz with rfl | hz
  ·exact h1
  ·exact Nat.le_trans h1 (List.rel_of_pairwise_cons h2 hz)
theorem sorted_pw (ms : List Nm) (h : sortedS (ms.map Nm.txt) = true) : ms.Pairwise (fun a b => a.rank ≤ b.rank) := by
 cases ms with
 | nil => exact List.Pairwise.nil
 | cons x r => exact rising_pw x r h
theorem mem_insNm {x y : Nm} : ∀ {ys : List Nm}, y ∈ insNm x ys ↔ y = x ∨ y ∈ ys
 | [] => by simp [insNm]
 | z :: ys => by
  unfold insNm
  split
  ·simp
  ·split
   ·rename_i h; subst h; simp
   ·rw [List.mem_cons, mem_insNm, List.mem_cons]
    constructor
    ·rintro (h | h | h); exact .inr (.inl h); exact .inl h; exact .inr (.inr h)
    ·rintro (h | h | h); exact .inr (.inl h); exact .inl h; exact .inr (.inr h)
theorem insNm_sorted (x : Nm) : ∀ {ys : List Nm}, ys.Pairwise (fun a b => a.rank < b.rank) → (insNm x ys).Pairwise (fun a b => a.rank < b.rank)
 | [], _ => by simp [insNm]
 | y :: ys, h => by
  unfold insNm
  split
  ·rename_i hx
   refine List.Pairwise.cons (fun z hz => ?_) h
   rcases List.mem_cons.mp hz with rfl | hz
   ·exact hx
   ·exact Nat.lt_trans hx (List.rel_of_pairwise_cons h hz)
  ·split
   ·exact h
   ·rename_i h1 h2
    refine List.Pairwise.cons (fun z hz => ?_) (insNm_sorted x (List.pairwise_cons.mp h).2)
    rcases mem_insNm.mp hz with rfl | hz
    ·have : y.rank ≠ z.rank := fun e => h2 (rank_inj e.symm)
     lia
    ·exact List.rel_of_pairwise_cons h hz
theorem mem_foldNm : ∀ {xs acc : List Nm} {y : Nm}, y ∈ xs.foldl (fun acc x => insNm x acc) acc ↔ y ∈ acc ∨ y ∈ xs
 | [], acc, y => by simp
 | x :: xs, acc, y => by
  rw [List.foldl_cons, mem_foldNm, mem_insNm, List.mem_cons]
  constructor
  ·rintro ((h | h) | h); exact .inr (.inl h); exact .inl h; exact .inr (.inr h)
  ·rintro (h | h | h); exact .inl (.inr h); exact .inl (.inl h); exact .inr h
theorem foldNm_sorted : ∀ {xs acc : List Nm}, acc.Pairwise (fun a b => a.rank < b.rank) → (xs.foldl (fun acc x => insNm x acc) acc).Pairwise (fun a b => a.rank < b.rank)
 | [], _, h => h
 | x :: xs, _, h => foldNm_sorted (xs := xs) (insNm_sorted x h)
theorem mem_sortNm {xs : List Nm} {y : Nm} : y ∈ sortNm xs ↔ y ∈ xs := by unfold sortNm; rw [mem_foldNm]; simp
theorem sortNm_sorted (xs : List Nm) : (sortNm xs).Pairwise (fun a b => a.rank < b.rank) := foldNm_sorted List.Pairwise.nil
theorem sortNm_nodup (xs : List Nm) : (sortNm xs).Nodup := (sortNm_sorted xs).imp fun h e => by subst e; exact Nat.lt_irrefl _ h
theorem sortNm_length (xs : List Nm) : (sortNm xs).length ≤ 12 := by
 have h : (sortNm xs).length ≤ allNm.length := by
  have := List.Nodup.length_le_of_subset (sortNm_nodup xs) (fun y _ => mem_allNm y)
  exact this
 exact h
theorem sortNm_uniq {ns : List Nm} {ss : List Str} (hp : ss.Perm (strSet (ns.map Nm.txt))) (hs : sortedS ss = true) : ss = (sortNm ns).map Nm.txt := by
 have hm : ∀ y ∈ ss, ∃ x, x ∈ ns ∧ x.txt = y := fun y hy => by
  have := (mem_strSet _ _ _).mp (hp.mem_iff.mp hy)
  simp only [List.not_mem_nil, false_or, List.mem_map] at this
  exact this
 obtain ⟨ms, rfl⟩ : ∃ ms : List Nm, ss = ms.map Nm.txt := by
  clear hp hs
  induction ss with
  | nil => exact ⟨[], rfl⟩
  | cons y ss ih =>
   obtain ⟨ms, rfl⟩ := ih fun y hy => hm y (.tail _ hy)
   obtain ⟨x, _, rfl⟩ := hm y (.head _)
   exact ⟨x :: ms, rfl⟩
 congr 1
 have hn : (ms.map Nm.txt).Nodup := hp.nodup_iff.mpr (strSet_nodup _ _ List.nodup_nil)
 have hn' : ms.Nodup := (List.pairwise_map.mp hn).imp fun h e => h (congrArg _ e)
 refine List.Perm.eq_of_pairwise (le := fun a b => a.rank ≤ b.rank) (fun a b _ _ h1 h2 => rank_inj (Nat.le_antisymm h1 h2)) (sorted_pw ms hs) ((sortNm_sorted ns).imp Nat.le_of_lt) ?_
 rw [List.perm_ext_iff_of_nodup hn' (sortNm_nodup ns)]
 intro a
 rw [mem_sortNm]
 have h1 : a.txt ∈ ms.map Nm.txt ↔ a.txt ∈ strSet (ns.map Nm.txt) := hp.mem_iff
 unfold strSet at h1
 rw [mem_strSet] at h1
 simp only [List.not_mem_nil, false_or, List.mem_map] at h1
 constructor
 ·intro ha
  obtain ⟨b, hb, e⟩ := h1.mp ⟨a, ha, rfl⟩
  rw [← Nm.inj e]; exact hb
 ·intro ha
  obtain ⟨b, hb, e⟩ := h1.mpr ⟨a, ha, rfl⟩
  rw [← Nm.inj e]; exact hb
section
variable {prog : Program} {w : World} {A : Around} {E : Value → Shared → Prop} {s : Shared}
theorem sorted_shell {v : Addr} {Q : Value → Shared → Prop} (Rel : List Value → Prop) (Out : List Value → Prop)
  (hcol : ∀ (Q1 : List Value → Shared → Prop) (E1 : Value → Shared → Prop), (∀ vs s1, Rel vs → (∀ b o, s.heap.get? b = some o → s1.heap.get? b = some o) → s1.gens = s.gens → s1.os = s.os → Q1 vs s1) →
   wpAny (model prog w) A.in1 (collect (.ref v)) Q1 E1 s)
  (hsort : ∀ (vs : List Value) (s1 : Shared) (l : Addr) (A1 : Around) (P : Fin → Shared → Prop) (E1 : Value → Shared → Prop), Rel vs → s1.heap.get? l = some (seqObj "list" vs.toArray 0) →
   (∀ out : Array Value, Out out.toList → P (.done (.ret .none)) { s1 with heap := sortedHeap s1.heap l vs out }) → wpAny (model prog w) A1 (Builtin.«list.sort» ⟨[.ref l], []⟩) P E1 s1)
  (hlen : ∀ vs, Rel vs → vs.length < 4096)
  (h : ∀ s' l out e, Out out → (∀ b o, s.heap.get? b = some o → s'.heap.get? b = some o) → s.heap.get? l = none → (∀ b o, s.heap.get? b = some o → b < l) → s'.heap.get? l = some (seqObj "list" out.toArray e) →
   s'.gens = s.gens → s'.os = s.os → Q (.ref l) s') :
  wpAny (model prog w) A (call (.builtin "sorted") [.ref v]) Q E s := by
 refine Calls.call_function_entry kind_sorted plain_sorted entry_sorted (args_sorted1 _) ?_
 unfold Builtin.«sorted»
 refine wpAny_bind (m := checkCount "sorted" 1 1 _) (wpAny_pure ?_)
 refine wpAny_bind (hcol _ _ fun vs s1 hr hk hg ho => ?_)
 refine wpAny_bind (wpAny_newList ?_ (by have := hlen vs hr; rw [sizeLine_eq]; lia))
 show wpAny _ _ _ _ _ { s1 with heap := s1.heap.push (seqObj "list" vs.toArray 0) }
 obtain ⟨s2, hs2⟩ : ∃ s2 : Shared, s2 = { s1 with heap := s1.heap.push (seqObj "list" vs.toArray 0) } := ⟨_, rfl⟩
 rw [← hs2]
 have hoL : s2.heap.get? s1.heap.objs.size = some (seqObj "list" vs.toArray 0) := by rw [hs2]; exact Heap.get?_push_size _ rfl
 have hk2 : ∀ b o, s.heap.get? b = some o → s2.heap.get? b = some o := fun b o q => by rw [hs2]; exact Heap.get?_push_of_some _ (hk b o q)
 have hg2 : s2.gens = s.gens := by rw [hs2]; exact hg
 have ho2 : s2.os = s.os := by rw [hs2]; exact ho
 have hnew : s.heap.get? s1.heap.objs.size = none := by
  cases q : s.heap.get? s1.heap.objs.size with
  | none => rfl
  | some o => exact absurd (Heap.lt_size (hk _ _ q)) (Nat.lt_irrefl _)
 have hlt : ∀ b o, s.heap.get? b = some o → b < s1.heap.objs.size := fun b o q => Heap.lt_size (hk b o q)
 generalize s1.heap.objs.size = l at hoL hnew hlt
 clear hs2 hk hg ho
 refine wpAny_bind (wpAny_holding (wpAny_call_entry (s := s2) slot_list_sort ⟨_, hoL, rfl⟩ entry_list_sort (hsort vs s2 l _ _ _ hr hoL fun out hout => ⟨_, rfl, ?_⟩) (args_list_sort _)))
 obtain ⟨e, he⟩ := sortedHeap_at (out := out) hoL
 refine wpAny_pure ⟨_, rfl, h _ l out.toList e hout (fun b o q => ?_) hnew hlt he hg2 ho2⟩
 show (sortedHeap _ _ _ _).get? b = some o
 rw [sortedHeap_old (Nat.ne_of_lt (hlt b o q)) (Heap.lt_size (hk2 b o q))]
 exact hk2 b o q
end
end Mine
end
section
namespace Mine
open PySem PySem.W PyProof.Rows PySem.Calls
variable {G : Gd} {C : CS} {n : Nat} {sc : Scope}
section
variable {I : Inj} {mh : MH} {s s' : Shared} {A : Around} {Er : Value → Shared → Prop} {env : PySem.Env} {me : Env}
theorem call_one {k : Nat} {x : Str} {p pos : Pos} {id : String} {ex : Expr} {Q : Value → Shared → Prop} (S : G.St I mh s) (R : EnvR G env me I k s.heap)
  (hb : biName x = true) (hf : bootBuiltins x = some (.builtin id)) (hx : sc.names.lookup x = some .globalImplicit) (hsc : env.scope = sc) (hst : ∀ env, starEach [ex] env = [(false, eval ex env)]) (hd : (x == ("__debug__" : Str)) = false) (hn : x ≠ "__name__")
  (h : wpAny G.M A (eval ex env) (fun v s1 => wpAny G.M A (call (.builtin id) [v]) Q Er s1) Er s) : wpAny G.M A (eval (.Call (.Name x p) [ex] [] pos) env) Q Er s := by
 have hx' : env.kindOf x = some .globalImplicit := by subst hsc; exact hx
 have k : wpAny G.M A (evalArgs (.builtin id) true (backTo pos (starEach [ex] env)) []) (fun a s₁ => wpAny G.M A (call (.builtin id) ([] ++ a.pos) a.kw) Q Er s₁) Er s := by
  refine evalArgs_of (by rw [back_any, hst]; rfl) ?_
  rw [hst]
  show wpAny _ _ (spliced [(false, eval ex env)]) _ _ _
  exact Calls.spliced_cons (wpAny_mono h (fun v s1 h1 => Calls.spliced_nil h1) fun _ _ e => e)
 refine wpAny_Call_ofName (name_bi S R hb hf hx' ?_ hd hn)
 exact Calls.callWith_builtin (by rw [back_any, hst]; rfl) k
theorem EnvR.sizeKeep (R : EnvR G env me I mh.nxt s.heap) {l : Addr} (h : ∀ b o, s.heap.get? b = some o → b < l) : G.h₀.objs.size ≤ l := by
 obtain ⟨m, F⟩ := R.F
 obtain ⟨oL, _, _, hL, _⟩ := F.ns
 exact Nat.le_of_lt (Nat.lt_of_le_of_lt F.above (h _ _ hL))
theorem strs_of {h : Heap} {ns : List Nm} : ∀ {xs : List Value}, F2 (VR I mh.nxt h) (ns.map V.str) xs → StrsAre xs (ns.map Nm.txt) := by
 induction ns with
 | nil => intro xs h; cases h; exact .nil
 | cons n ns ih => intro xs h; cases h with | cons a h => obtain ⟨t, rfl⟩ := a; exact .cons _ t (ih h)
theorem of_strs {h : Heap} {k : Nat} {ns : List Nm} : ∀ {xs : List Value}, StrsAre xs (ns.map Nm.txt) → F2 (VR I k h) (ns.map V.str) xs := by
 induction ns with
 | nil => intro xs h; cases h; exact .nil
 | cons n ns ih => intro xs h; cases h with | cons _ t h => exact .cons ⟨t, rfl⟩ (ih h)
theorem of_ints {h : Heap} {k : Nat} : ∀ {ns : List Int} {xs : List Value}, IntsAre xs ns → F2 (VR I k h) (ns.map V.int) xs
 | _, _, .nil => .nil
 | _, _, .cons n t h => .cons ⟨t, rfl⟩ (of_ints h)
theorem sorted_alloc {l : Addr} {vs : List V} {out : List Value} {e : Nat} (S : G.St I mh s) (R : EnvR G env me I mh.nxt s.heap) (hk : ∀ b o, s.heap.get? b = some o → s'.heap.get? b = some o) (hl : s.heap.get? l = none)
  (hlt : ∀ b o, s.heap.get? b = some o → b < l) (hL : s'.heap.get? l = some (seqObj "list" out.toArray e)) (hg : s'.gens = s.gens) (ho : s'.os = s.os) (f : F2 (VR (I.put mh.nxt l l) (mh.nxt + 1) s'.heap) vs out) :
  G.St (I.put mh.nxt l l) (mh.new (.list vs)) s' ∧ Ext NoX I mh.nxt s.heap (I.put mh.nxt l l) (mh.new (.list vs)).nxt s'.heap ∧ VR (I.put mh.nxt l l) (mh.new (.list vs)).nxt s'.heap (.loc mh.nxt) (.ref l) := by
 have z := R.sizeKeep hlt
 obtain ⟨S', e'⟩ := S.alloc (s' := s') (o := .list vs) hk hl hl z z hg ho ⟨by rw [put_at.1, put_at.2], out, e, by rw [put_at.1]; exact hL, f⟩
 refine ⟨S', e', Nat.lt_succ_self _, ?_⟩
 rw [put_at.1]
theorem setSort_sound {l : Nat} {ns : List Nm} {x : Value} {Q : Value → Shared → Prop} (hA : AOk n A) (S : G.St I mh s) (R : EnvR G env me I mh.nxt s.heap) (e : mh.get l = some (.list (ns.map V.str))) (h1 : ns.length < 1000) (r : VR I mh.nxt s.heap (.loc l) x)
  (hQ : ∀ x I' s', Ext NoX I mh.nxt s.heap I' (mh.new (.list ((sortNm ns).map .str))).nxt s'.heap → G.St I' (mh.new (.list ((sortNm ns).map .str))) s' → VR I' (mh.new (.list ((sortNm ns).map .str))).nxt s'.heap (.loc mh.nxt) x → Q x s') :
  wpAny G.M A (call (.type "set") [x]) (fun v s1 => wpAny G.M A (call (.builtin "sorted") [v]) Q Er s1) Er s := by
 obtain ⟨l1, rfl⟩ := r
 obtain ⟨_, xs, k, hl, f⟩ := S.list l1 e
 have hi := strs_of f
 refine call_set_strs (items := xs.toArray) (ys := ns.map Nm.txt) hA.1 hl.isList (by simpa using hi) (by rw [List.length_map]; unfold scanBound; lia) fun h' tk hS hk => ?_
 have hk' : ∀ b o, s.heap.get? b = some o → h'.get? b = some o := fun b o q => hk b o (Heap.lt_size q) q
 have hlen : (strSet (ns.map Nm.txt)).length < scanBound := by
  have := strSet_length (ns.map Nm.txt) []
  rw [List.length_map] at this
  simp only [List.length_nil, Nat.zero_add] at this
  unfold strSet scanBound; lia
 have hp12 : (strSet (ns.map Nm.txt)).length ≤ 12 := by
  have hn := strSet_nodup (ns.map Nm.txt) [] List.nodup_nil
  have := List.Nodup.length_le_of_subset hn (l₂ := allNm.map Nm.txt) fun y hy => by
   have := (mem_strSet _ _ _).mp hy
   simp only [List.not_mem_nil, false_or, List.mem_map] at this
   obtain ⟨x, _, rfl⟩ := this
   exact List.mem_map_of_mem (mem_allNm x)
  exact this
 refine sorted_shell (s := { s with heap := h', toks := tk }) (fun vs => ∃ ss, StrsAre vs ss ∧ ss.Perm (strSet (ns.map Nm.txt))) (fun out => StrsAre out ((sortNm ns).map Nm.txt)) ?_ ?_ ?_ ?_
 ·intro Q1 E1 hq
  exact collect_setX (s := { s with heap := h', toks := tk }) hA.1 hS hlen fun vs ss s1 a1 a2 a3 a4 a5 => hq vs s1 ⟨ss, a1, a2⟩ a3 a4 a5
 ·rintro vs s1 l A1 P E1 ⟨ss, a1, a2⟩ hL hP
  refine list_sort_treeK strKind_oneLt hL a1.keysOf (fun v₁ v₂ rest e => keyKind_strs (by rw [← e]; exact a1)) ?_ fun st' hp hs => ?_
  ·rw [StrsAre.len_eq a1, a2.length_eq]; lia
  ·obtain ⟨ss', b1, b2, b3⟩ := sorted_out_str a1 hp hs
   refine hP _ ?_
   rw [← sortNm_uniq (b2.trans a2) b3]; exact b1
 ·rintro vs ⟨ss, a1, a2⟩
  rw [StrsAre.len_eq a1, a2.length_eq]; lia
 ·intro s' l out e' ho hk2 hl2 hlt hL hg hos
  have hl3 : s.heap.get? l = none := by
   cases q : s.heap.get? l with
   | none => rfl
   | some o => have := hk' l o q; rw [show h'.get? l = none from hl2] at this; cases this
  obtain ⟨q1, q2, q3⟩ := sorted_alloc (vs := (sortNm ns).map .str) S R (fun b o q => hk2 b o (hk' b o q)) hl3 (fun b o q => hlt b o (hk' b o q)) hL hg hos (of_strs ho)
  exact hQ _ _ _ q2 q1 q3
theorem is_int_shape {p : Program} {w : World} {k : Int} {v : Value} (h : (intKind p w).is k v = true) : ∃ t, v = .int k t := Value.isInt_shape h
theorem keySort_sound {l : Nat} {es : List (Int × Int)} {x : Value} {Q : Value → Shared → Prop} (hA : AOk n A) (S : G.St I mh s) (R : EnvR G env me I mh.nxt s.heap) (e : mh.get l = some (.dict es)) (h1 : es.length < 64) (r : VR I mh.nxt s.heap (.loc l) x)
  (hQ : ∀ x I' s', Ext NoX I mh.nxt s.heap I' (mh.new (.list ((sortInt (es.map (·.1))).map .int))).nxt s'.heap → G.St I' (mh.new (.list ((sortInt (es.map (·.1))).map .int))) s' → VR I' (mh.new (.list ((sortInt (es.map (·.1))).map .int))).nxt s'.heap (.loc mh.nxt) x → Q x s') :
  wpAny G.M A (call (.builtin "sorted") [x]) Q Er s := by
 obtain ⟨l1, rfl⟩ := r
 obtain ⟨_, kvs, hd, f⟩ := S.dict l1 e
 obtain ⟨ep, hD⟩ := hd.dictAt
 have hlen : es.length = kvs.length := f.length
 have hkeys : kvs.map (·.1) = es.map (·.1) := by
  clear hD hd hlen e h1 hQ
  induction f with
  | nil => rfl
  | cons a _ ih => rw [List.map_cons, List.map_cons, ih, a.1]
 refine sorted_shell (fun vs => IntsAre vs (es.map (·.1))) (fun out => IntsAre out (sortInt (es.map (·.1)))) ?_ ?_ ?_ ?_
 ·intro Q1 E1 hq
  refine collect_any (.inr rfl) hd.typeIs (Rel := fun vs => IntsAre vs (es.map (·.1))) ?_ fun vs s' a1 a2 a3 a4 => hq vs s' a1 a2 a3 a4
  intro Q2 E2 hq2
  have hD1 := hD.push (seqObj "list" #[] 0)
  have hlt := hD.lt_size
  refine wpAny_pyIter_dict (s := { s with heap := s.heap.push (seqObj "list" #[] 0) }) (notSys S l1) hD1 ?_
  have hsz : (s.heap.push (seqObj "list" #[] 0)).objs.size = s.heap.objs.size + 1 := size_push' _ _
  have hne : I.a l ≠ (s.heap.push (seqObj "list" #[] 0)).objs.size := by rw [hsz]; exact Nat.ne_of_lt (Nat.lt_succ_of_lt hlt)
  refine hq2 _ _ ⟨⟨_, _, _, _, _, (Walks.dictKeys (prog := G.prog) (w := G.w) (knd := intKind G.prog G.w) (A := A.in1.in1) hA.1 (s.heap.push (seqObj "list" #[] 0)).objs.size (I.a l) hne kvs ep).toS,
   ⟨⟨_, Heap.get?_push_size _ rfl, rfl, rfl⟩, hD1.push _⟩, ?_, ?_, ?_, ?_⟩, fun b o q => Heap.get?_push_of_some _ q, rfl, rfl⟩
  ·simp only [List.mem_cons, List.not_mem_nil, or_false, not_or]
   exact ⟨by rw [hsz]; exact Nat.ne_of_lt (Nat.lt_succ_self _), Nat.ne_of_gt hlt⟩
  ·rw [← hlen, sizeLine_eq]; lia
  ·intro b hb
   have : b = (s.heap.push (seqObj "list" #[] 0)).objs.size := by simpa using hb
   subst this
   exact get_size _ _ (Nat.le_refl _)
  ·intro acc hacc
   obtain ⟨hsz2, hat⟩ := hacc
   rw [← hkeys]
   have key : ∀ (vs : List Value) (kv : List (Int × Value)), vs.length = kv.length → (∀ (i : Nat) v, vs[i]? = some v → ∃ k x, kv[i]? = some (k, x) ∧ (intKind G.prog G.w).is k v = true) → IntsAre vs (kv.map (·.1)) := by
    intro vs
    induction vs with
    | nil => intro kv h1 h2; cases kv with
     | nil => exact .nil
     | cons _ _ => simp at h1
    | cons v vs ih => intro kv h1 h2; cases kv with
     | nil => simp at h1
     | cons p kv =>
      obtain ⟨k, x, q1, q2⟩ := h2 0 v rfl
      simp at q1; subst q1
      obtain ⟨t, rfl⟩ := is_int_shape q2
      exact .cons _ t (ih kv (by simpa using h1) fun i v q => h2 (i + 1) v q)
   exact key acc.toList kvs (by rw [Array.length_toList]; exact hsz2) fun i v q => hat i v (by rw [← Array.getElem?_toList]; exact q)
 ·intro vs s1 l A1 P E1 a1 hL hP
  have hv : vs.length = es.length := by rw [IntsAre.length a1, List.length_map]
  refine list_sort_tree hL a1 (by lia) fun out ns' b1 b2 b3 => hP out ?_
  rw [← sortInt_uniq b2 b3]; exact b1
 ·intro vs a1
  have hv : vs.length = es.length := by rw [IntsAre.length a1, List.length_map]
  lia
 ·intro s' l out e' ho hk2 hl2 hlt hL hg hos
  obtain ⟨q1, q2, q3⟩ := sorted_alloc (vs := (sortInt (es.map (·.1))).map .int) S R hk2 hl2 hlt hL hg hos (of_ints ho)
  exact hQ _ _ _ q2 q1 q3
end
section
variable {a : E} {ea : Expr} {p pos p' pos' : Pos}
theorem snd_sortedSet (Ha : SndE G C n sc a ea) (hx : sc.names.lookup ("sorted" : Str) = some .globalImplicit := by rfl) (hx' : sc.names.lookup ("set" : Str) = some .globalImplicit := by rfl)
  (hst : ∀ env, starEach [ea] env = [(false, eval ea env)] := by intro _; rfl) :
  SndE G C n sc (.b1 .sortedSet a) (.Call (.Name "sorted" p) [.Call (.Name "set" p') [ea] [] pos'] [] pos) := fun A env me I mh s Qm Q Er hA hsc S R hw hQ => by
 refine call_one S R (by decide +kernel) boot_sorted' hx hsc (fun _ => rfl) (by decide +kernel) (by decide +kernel) ?_
 refine call_named (Qm := one fun v h => b1op .sortedSet v h Qm) (snd_cons Ha snd_nil hst) hA hsc S R hw (by decide +kernel) boot_set' (.inr ⟨_, rfl⟩) hx' (fun env => by rw [hst]; rfl) (by decide +kernel) (by decide +kernel)
  fun vs mh' xs I' s' q e S' R' r => ?_
 cases r with
 | nil => exact q.elim
 | cons r1 r2 => cases r2 with
  | nil =>
   obtain ⟨l, vs, ns, ⟨rfl, h1, rfl, h2⟩, hp⟩ := q
   exact setSort_sound hA S' R' h1 (by simpa using h2) r1 fun x I'' s'' e' S'' r => hQ _ _ _ _ _ hp (e.trans e') S'' r
  | cons _ _ => exact q.elim
theorem snd_sortedKeys (Ha : SndE G C n sc a ea) (hx : sc.names.lookup ("sorted" : Str) = some .globalImplicit := by rfl) (hst : ∀ env, starEach [ea] env = [(false, eval ea env)] := by intro _; rfl) :
  SndE G C n sc (.b1 .sortedKeys a) (.Call (.Name "sorted" p) [ea] [] pos) := fun A env me I mh s Qm Q Er hA hsc S R hw hQ =>
 call_named (Qm := one fun v h => b1op .sortedKeys v h Qm) (snd_cons Ha snd_nil hst) hA hsc S R hw (by decide +kernel) boot_sorted' (.inl ⟨_, rfl⟩) hx (fun env => by rw [hst]; rfl) (by decide +kernel) (by decide +kernel)
  fun vs mh' xs I' s' q e S' R' r => by
   cases r with
   | nil => exact q.elim
   | cons r1 r2 => cases r2 with
    | nil =>
     obtain ⟨l, es, ⟨rfl, h1, h2⟩, hp⟩ := q
     exact keySort_sound hA S' R' h1 h2 r1 fun x I'' s'' e' S'' r => hQ _ _ _ _ _ hp (e.trans e') S'' r
    | cons _ _ => exact q.elim
end
end Mine
end
section
namespace Mine
open PySem PySem.W PyProof.Rows PySem.Calls
theorem list_no_keys : typeLookup (.type "list") "keys" = pure none := by rw [typeLookup_type, builtinLookup_eq_fast]; kernel_rfl
section
variable {prog : Program} {w : World} {A : Around} {E : Value → Shared → Prop}
set_option maxHeartbeats 1000000 in
theorem getAttrBy_miss {s : Shared} {a : Addr} {xs : Array Value} {k : Nat} {u : Tok} {Q : Value → Shared → Prop} (hx : s.heap.get? a = some { cls := .type "list", dict := none, data := .seq xs k, slots := #[] }) (hA : A.handled = none)
  (h : ∀ h' tk e, Heap.NewExcOf s.heap h' e "AttributeError" → E (.ref e) { s with heap := h', toks := tk }) :
  wpAny (model prog w) A (getAttrBy (.ref a) (.str "keys" u) false) Q E s := by
 obtain ⟨hp, g, d, tk, os⟩ := s
 have hT : ∀ tk', (⟨hp, g, d, tk', os⟩ : Shared).TypeIs (.ref a) "list" := fun _ => ⟨_, hx, rfl⟩
 have f1 := sub_AttributeError
 have f3 := F.slot_list_getattribute.lookup
 have f4 := F.slot_list_getattribute.bind (.ref a)
 have f5 := am_list_getattr_none
 unfold getAttrBy
 repeat (any_goals (first | assumption | exact hT _ | ((with_reducible show wpAny _ _ (call (Value.builtin "list.__getattribute__") _ _) _ _ _); refine call_meets F.slot_list_getattribute (hT _) am_entry_list_getattribute (F.args_list_getattribute_2 _ _) (meets_getattribute_miss_list a xs k #[] "keys" _ list_no_keys (by decide +kernel) (by size_fits)) ⟨hx, hA, fun h' tk' e hx' => ?_⟩) | wp_step))
 obtain ⟨t', u', he⟩ := hx'.there
 show wpAny _ _ (getattributeRaised _ _ _ _ _ _ _) _ _ _
 unfold getattributeRaised
 repeat (any_goals (first | assumption | wp_step))
 exact h _ _ _ hx'.of
theorem getAttr_miss {s : Shared} {a : Addr} {xs : Array Value} {k : Nat} {Q : Option Value → Shared → Prop} (hx : s.heap.get? a = some { cls := .type "list", dict := none, data := .seq xs k, slots := #[] }) (hA : A.handled = none)
  (h : ∀ h' tk, (∀ b o, s.heap.get? b = some o → h'.get? b = some o) → Q none { s with heap := h', toks := tk }) :
  wpAny (model prog w) A (getAttr? (.ref a) "keys") Q E s := by
 unfold getAttr? mkText
 refine wpAny_bind (wpAny_bind (wpAny_fresh (wpAny_pure ?_)))
 unfold getAttrBy?
 refine wpAny_bind (wpAny_attempt (getAttrBy_miss (s := { s with toks := s.toks + 1 }) hx hA fun h' tk e he => ?_))
 obtain ⟨ob, vs, h1, h2, _⟩ := he.there
 refine wpAny_bind (wpAny_isInstance (T := "AttributeError") (b := true) ⟨ob, h1, h2⟩ sub_AttributeError ?_)
 exact wpAny_pure (h h' tk he.keeps)
noncomputable def PairR (h : Heap) (p : Nm × Int) (x : Value) : Prop := ∃ a k t u, x = .ref a ∧ IsT h a #[.str p.1.txt t, .int p.2 u] k
abbrev SR : Nm × Int → Str × Value → Prop := fun e kv => e.1.txt = kv.1 ∧ ∃ t, kv.2 = .int e.2 t
theorem F2.storedS {es : List (Nm × Int)} {kvs : List (Str × Value)} (h : F2 SR es kvs) (k : Nm) (v : Int) (t : Tok) : F2 SR (dput es k v) (PySem.stored kvs k.txt (.int v t)) := by
 have ha : ∀ {es : List (Nm × Int)} {kvs : List (Str × Value)}, F2 SR es kvs → (es.any fun e => decide (e.1 = k)) = (kvs.any fun kv => decide (kv.1 = k.txt)) := by
  intro es kvs h
  induction h with
  | nil => rfl
  | cons a _ ih =>
   rw [List.any_cons, List.any_cons, ih, ← a.1]
   congr 1
   exact decide_eq_decide.mpr ⟨fun e => by rw [e], fun e => Nm.inj e⟩
 have hm : ∀ {es : List (Nm × Int)} {kvs : List (Str × Value)}, F2 SR es kvs → F2 SR (es.map fun e => if e.1 = k then (e.1, v) else e) (kvs.map fun kv => if kv.1 = k.txt then (kv.1, .int v t) else kv) := by
  intro es kvs h
  induction h with
  | nil => exact .nil
  | cons a _ ih =>
   refine .cons ?_ ih
   rename_i x y _ _ _
   obtain ⟨x1, x2⟩ := x
   obtain ⟨y1, y2⟩ := y
   obtain ⟨a1, a2⟩ := a
   dsimp only at a1 ⊢
   subst a1
   by_cases hk : x1 = k
   ·subst hk; rw [if_pos rfl, if_pos rfl]; exact ⟨rfl, t, rfl⟩
   ·rw [if_neg hk, if_neg fun e => hk (Nm.inj e)]; exact ⟨rfl, a2⟩
 unfold dput PySem.stored
 rw [ha h]
 split
 ·exact hm h
 ·exact h.append (.cons ⟨rfl, t, rfl⟩ .nil)
theorem dput_length {K : Type} [DecidableEq K] (es : List (K × Int)) (k : K) (v : Int) : (dput es k v).length ≤ es.length + 1 := by
 unfold dput; split <;> simp
noncomputable def dfold (ps : List (Nm × Int)) : List (Nm × Int) := ps.foldl (fun es p => dput es p.1 p.2) []
theorem dfold_length : ∀ (ps acc : List (Nm × Int)), (ps.foldl (fun es p => dput es p.1 p.2) acc).length ≤ acc.length + ps.length
 | [], acc => by simp
 | p :: ps, acc => by have := dfold_length ps (dput acc p.1 p.2); have := dput_length acc p.1 p.2; simp only [List.foldl_cons, List.length_cons]; lia
theorem entry_dict_loop : entryFor table "dict.update.loop" = some Builtin.«dict.update.loop» := entryFor_of_tree (by kernel_rfl)
theorem plain_dict_loop : plainId "dict.update.loop" = true := by decide +kernel
theorem dict_loopX {R : Result → Shared → Prop} {I D : Addr} {fp wr : List Addr} {St : Nat → Shared → Prop} {xs : List Value} {ps : List (Nm × Int)} {h0 : Heap} (hp : F2 (PairR h0) ps xs) (hb : ps.length ≤ 1000)
  (W : WalksS prog w A.in1 I fp wr (fun a b => b = a) ps.length (fun i v => xs[i]? = some v) St) (hDf : D ∉ fp) (hold : ∀ a o, h0.get? a = some o → a ≠ D ∧ a ∉ wr) :
  ∀ (k i : Nat) (s : Shared) (kvs : List (Str × Value)), ps.length - i = k → i ≤ ps.length → St i s → (∀ b o, h0.get? b = some o → s.heap.get? b = some o) → s.heap.DictOf (PySem.strKind prog w) D kvs → F2 SR (dfold (ps.take i)) kvs →
   (∀ s' kvs', (∀ b o, h0.get? b = some o → s'.heap.get? b = some o) → s'.gens = s.gens → s'.os = s.os → s'.heap.DictOf (PySem.strKind prog w) D kvs' → F2 SR (dfold ps) kvs' → R (.ok (.ret .none)) s') →
   codeAny (model prog w) A (.builtin "dict.update.loop" ⟨[.ref D, .ref I, rawInt i, .none], []⟩) R s := by
 have hDw : D ∉ wr := fun h => hDf (W.sub _ h)
 intro k
 induction k with
 | zero =>
  intro i s kvs hk hi hst hkeep hD hf hR
  have hin : i = ps.length := by lia
  subst hin
  refine codeAny_builtin entry_dict_loop ?_
  rw [Around.under_plainId plain_dict_loop _]
  show wpAny _ A.in1 (pyNext (.ref I) >>= _) _ _ s
  refine wpAny_bind (W.done s _ _ hst fun s' hm => ?_)
  refine wpAny_bind (m := Builtin.Dict.addKeywords D []) (wpAny_pure ?_)
  rw [List.take_length] at hf
  refine wpAny_pure (hR s' kvs (fun b o e => hm.heap b o (hold b o e).2 (hkeep b o e)) hm.gens hm.os ?_ hf)
  obtain ⟨o, es, ep, ho, r⟩ := hD
  exact ⟨o, es, ep, hm.heap D _ hDw ho, r⟩
 | succ k ih =>
  intro i s kvs hk hi hst hkeep hD hf hR
  have hlt : i < ps.length := by lia
  refine codeAny_builtin entry_dict_loop ?_
  rw [Around.under_plainId plain_dict_loop _]
  show wpAny _ A.in1 (pyNext (.ref I) >>= _) _ _ s
  refine wpAny_bind (W.item i s _ _ hlt hst fun v s' hP hst' hm => ?_)
  obtain ⟨v', hv', a, kk, t, u, rfl, hT⟩ := hp.get (List.getElem?_eq_getElem hlt)
  rw [hP] at hv'; cases hv'
  have hkeep' : ∀ b o, h0.get? b = some o → s'.heap.get? b = some o := fun b o e => hm.heap b o (hold b o e).2 (hkeep b o e)
  have hT' := hkeep' _ _ hT
  dsimp only
  refine wpAny_bind (wpAny_holding ?_)
  refine wpAny_bind (wpAny_tryCatch ?_)
  unfold Builtin.Dict.pairItems
  refine wpAny_bind (wpAny_typeOf (T := "tuple") ⟨_, hT', rfl⟩ ?_)
  rw [if_pos (by decide)]
  refine wpAny_bind (wpAny_seqItems hT' rfl ?_)
  refine wpAny_pure ?_
  dsimp only [Option.getD]
  refine wpAny_holding ?_
  have hD' : s'.heap.DictOf (PySem.strKind prog w) D kvs := by
   obtain ⟨o, es, ep, ho, r⟩ := hD
   exact ⟨o, es, ep, hm.heap D _ hDw ho, r⟩
  have hlen : kvs.length ≤ 1000 := by
   rw [← hf.length]
   have := dfold_length (ps.take i) []
   rw [List.length_take] at this
   simp only [List.length_nil, Nat.zero_add] at this
   unfold dfold; lia
  refine wpAny_dictSet_pairs (knd := PySem.strKind prog w) (k := ps[i].1.txt) (strKind_is _ _ _ _) hD' (fun h' hD2 hs2 => ?_) (by rw [sizeLine_eq]; lia)
  have hf2 := hf.storedS ps[i].1 ps[i].2 u
  have e2 : dfold (ps.take (i + 1)) = dput (dfold (ps.take i)) ps[i].1 ps[i].2 := by
   unfold dfold
   rw [List.take_add_one, List.getElem?_eq_getElem hlt, List.foldl_append]; rfl
  rw [← e2] at hf2
  refine wpAny_pure ⟨plainId_quiet plain_dict_loop _, ?_⟩
  refine ih (i + 1) _ _ (by lia) hlt (W.frame _ s' h' _ hst' (Nat.le_succ _) fun b hb o e => ?_) (fun b o e => ?_) hD2 hf2 fun s'' kvs'' q1 q2 q3 q4 q5 => hR s'' kvs'' q1 (q2.trans hm.gens) (q3.trans hm.os) q4 q5
  ·rw [hs2.2 b (fun h => hDf (h ▸ hb))]; exact e
  ·show h'.get? b = some o
   rw [hs2.2 b (hold b o e).1]; exact hkeep' b o e
theorem call_dict_pairs {s : Shared} {l : Addr} {k : Nat} {xs : List Value} {ps : List (Nm × Int)} {Q : Value → Shared → Prop} (hA : A.handled = none) (hl : IsL s.heap l xs.toArray k) (hp : F2 (PairR s.heap) ps xs) (hb : ps.length ≤ 1000)
  (h : ∀ s' kvs, (∀ b o, s.heap.get? b = some o → s'.heap.get? b = some o) → s'.gens = s.gens → s'.os = s.os → s'.heap.DictOf (PySem.strKind prog w) s.heap.objs.size kvs → F2 SR (dfold ps) kvs → Q (.ref s.heap.objs.size) s') :
  wpAny (model prog w) A (call (.type "dict") [.ref l]) Q E s := by
 refine callType_codes (Q₁ := fun obj s₁ => obj = .ref s.heap.objs.size ∧ s₁ = { s with heap := s.heap.push { cls := .type "dict", data := .dict #[] } }) F.kt_called_dict (F.kt_typeCall_dict_1 _) F.entry_dict_init (kt_code_dict_new _ ⟨rfl, rfl⟩) ?_
 rintro obj s₁ ⟨rfl, rfl⟩
 have hnew : (s.heap.push { cls := .type "dict", data := .dict #[] }).DictOf (PySem.strKind prog w) s.heap.objs.size [] := Heap.DictOf.new s.heap
 refine ⟨hnew.typeIs, F.args_dict_init_2 _ _, ?_⟩
 unfold Builtin.«dict.__init__»
 refine wpAny_bind ?_
 unfold Builtin.Dict.selfAndRest
 refine wpAny_bind (wpAny_notOrdered_dict hnew.typeIs ?_)
 show wpAny _ _ (pure (s.heap.objs.size, [Value.ref l])) _ _ _
 refine wpAny_pure ?_
 show wpAny _ _ (Builtin.Dict.updateFrom "dict.__init__" s.heap.objs.size (.ref l) [] .none) _ _ _
 unfold Builtin.Dict.updateFrom
 have hl1 : (s.heap.push { cls := .type "dict", data := .dict #[] }).get? l = some { cls := .type "list", dict := none, data := .seq xs.toArray k, slots := #[] } := Heap.get?_push_of_some _ hl
 refine wpAny_bind (wpAny_typeOf (T := "list") ⟨_, hl1, rfl⟩ ?_)
 rw [if_pos (by decide)]
 refine wpAny_bind (getAttr_miss hl1 hA fun h' tk hk => ?_)
 rw [if_pos (by rfl)]
 refine wpAny_bind (wpAny_rule ?_)
 have hl2 := hk _ _ hl1
 have hL2 : h'.IsList l xs.toArray := ⟨_, hl2, rfl, k, rfl⟩
 refine wpAny_bind (wpAny_pyIter_list hL2 ?_)
 refine wpAny_pure ⟨plainId_quiet plain_dict_loop _, ?_⟩
 have hDh : h'.get? s.heap.objs.size = some { cls := .type "dict", data := .dict #[] } := hk _ _ (Heap.get?_push_size _ rfl)
 have hDlt := Heap.lt_size hDh
 have hllt := Heap.lt_size hl
 have hne : l ≠ h'.objs.size := Nat.ne_of_lt (Heap.lt_size hl2)
 have hlen := hp.length
 have W0 := (Walks.list (prog := prog) (w := w) (A := A.in1.in1) hA h'.objs.size l hne xs.toArray).toS
 have W := walks_imp W0 (n' := ps.length) (by simp [hlen]) (P' := fun i v => xs[i]? = some v) fun i v q => by simpa using q
 refine dict_loopX hp hb W (D := s.heap.objs.size) ?_ (fun a o e => ⟨Nat.ne_of_lt (Heap.lt_size e), ?_⟩) (ps.length - 0) 0 _ [] rfl (Nat.zero_le _) ⟨⟨_, Heap.get?_push_size _ rfl, rfl, rfl⟩, hL2.push _⟩ (fun b o e => ?_) ?_ .nil ?_
 ·simp only [List.mem_cons, List.not_mem_nil, or_false, not_or]
  exact ⟨Nat.ne_of_lt hDlt, Nat.ne_of_gt hllt⟩
 ·intro hm
  have : a = h'.objs.size := by simpa using hm
  have h2 := Heap.lt_size (hk _ _ (Heap.get?_push_of_some _ e))
  rw [this] at h2; exact Nat.lt_irrefl _ h2
 ·exact Heap.get?_push_of_some _ (hk _ _ (Heap.get?_push_of_some _ e))
 ·obtain ⟨o, es, ep, ho, r⟩ := hnew
  exact ⟨o, es, ep, Heap.get?_push_of_some _ (hk _ _ ho), r⟩
 ·intro s' kvs' q1 q2 q3 q4 q5
  exact ⟨rfl, h s' kvs' q1 q2 q3 q4 q5⟩
end
end Mine
end
section
namespace Mine
open PySem PySem.W PyProof.Rows PySem.Calls
variable {G : Gd} {C : CS} {n : Nat} {sc : Scope}
section
variable {I : Inj} {mh : MH} {s : Shared} {A : Around} {Er : Value → Shared → Prop} {env : PySem.Env} {me : Env}
theorem pairs_of {h : Heap} {k : Nat} {ps : List (Nm × Int)} : ∀ {xs : List Value}, F2 (VR I k h) (ps.map (fun p : Nm × Int => V.tup [.str p.1, .int p.2])) xs → F2 (PairR h) ps xs := by
 induction ps with
 | nil => intro xs h; cases h; exact .nil
 | cons p ps ih =>
  intro xs h
  cases h with
  | cons a r =>
  refine .cons ?_ (ih r)
  obtain ⟨ad, items, c, rfl, hT, f⟩ := a
  cases f with
  | cons f1 f2 => cases f2 with
   | cons f2 f3 =>
    cases f3
    obtain ⟨t, rfl⟩ := f1
    obtain ⟨u, rfl⟩ := f2
    exact ⟨ad, c, t, u, rfl, hT⟩
theorem dictPairs_sound {l : Nat} {ps : List (Nm × Int)} {x : Value} {Q : Value → Shared → Prop} (hA : AOk n A) (S : G.St I mh s) (z : G.h₀.objs.size ≤ s.heap.objs.size) (e : mh.get l = some (.list (ps.map (fun p : Nm × Int => V.tup [.str p.1, .int p.2])))) (h1 : ps.length ≤ 1000) (r : VR I mh.nxt s.heap (.loc l) x)
  (hQ : ∀ x I' s', Ext NoX I mh.nxt s.heap I' (mh.new (.sdict (dfold ps))).nxt s'.heap → G.St I' (mh.new (.sdict (dfold ps))) s' → VR I' (mh.new (.sdict (dfold ps))).nxt s'.heap (.loc mh.nxt) x → Q x s') :
  wpAny G.M A (call (.type "dict") [x]) Q Er s := by
 obtain ⟨l1, rfl⟩ := r
 obtain ⟨_, xs, k, hl, f⟩ := S.list l1 e
 refine call_dict_pairs hA.1 hl (pairs_of f) h1 fun s' kvs hk hg ho hD hf => ?_
 obtain ⟨S', e'⟩ := S.alloc (s' := s') (o := .sdict (dfold ps)) hk (get_size _ _ (Nat.le_refl _)) (get_size _ _ (Nat.le_refl _)) z z hg ho ⟨by rw [put_at.1, put_at.2], kvs, by rw [put_at.1]; exact hD, hf⟩
 exact hQ _ _ _ e' S' new_loc
end
theorem snd_dictOf {a : E} {ea : Expr} {p pos : Pos} (Ha : SndE G C n sc a ea) (hx : sc.names.lookup ("dict" : Str) = some .globalImplicit := by rfl) (hst : ∀ env, starEach [ea] env = [(false, eval ea env)] := by intro _; rfl) :
  SndE G C n sc (.b1 .dict a) (.Call (.Name "dict" p) [ea] [] pos) := fun A env me I mh s Qm Q Er hA hsc S R hw hQ =>
 call_named (Qm := one fun v h => b1op .dict v h Qm) (snd_cons Ha snd_nil hst) hA hsc S R hw (by decide +kernel) boot_dict' (.inr ⟨_, rfl⟩) hx (fun env => by rw [hst]; rfl) (by decide +kernel) (by decide +kernel)
  fun vs mh' xs I' s' q e S' R' r => by
   cases r with
   | nil => exact q.elim
   | cons r1 r2 => cases r2 with
    | nil =>
     rcases q with ⟨l, es, ⟨rfl, h1, h2⟩, hp⟩ | ⟨l, vs, ps, ⟨rfl, h1, rfl, h2⟩, hp⟩
     ·exact dictCopy_sound S' R'.size h1 h2 r1 fun x I'' s'' e' S'' r => hQ _ _ _ _ _ hp (e.trans e') S'' r
     ·exact dictPairs_sound hA S' R'.size h1 (by simpa using h2) r1 fun x I'' s'' e' S'' r => hQ _ _ _ _ _ hp (e.trans e') S'' r
    | cons _ _ => exact q.elim
end Mine
end
section
namespace Mine
open PySem PySem.W PyProof.Rows PySem.Calls
noncomputable def nthS : List Stmt → Nat → Stmt
 | s :: _, 0 => s
 | _ :: r, n + 1 => nthS r n
 | [], _ => .Pass ⟨0, 0, 0, 0⟩
noncomputable def stAt (k : Nat) : Stmt := nthS PySem.Challenge.pw_pq0571_01.main.body k
noncomputable def mAt (k j : Nat) : Stmt := match stAt k with
 | .ClassDef _ _ _ body _ _ _ _ _ _ _ => nthS body j
 | s => s
noncomputable def scOf : Stmt → Scope
 | .FunctionDef _ _ _ _ _ _ sc _ _ _ => sc
 | _ => default
noncomputable def bdOf : Stmt → List Stmt
 | .FunctionDef _ _ body _ _ _ _ _ _ _ => body
 | _ => []
theorem ok_spread {G : Gd} {C : CS} {n : Nat} (HC : SndC G C n) : SndSs G C n (scOf (stAt 2)) body_spread (bdOf (stAt 2)) := by
 show SndSs G C n (Scope.mk _ _ _ _ _) _ (_ :: _)
 unfold body_spread
 refine snd_then ?_ ?_
 refine snd_assign ?_
 refine snd_listOf ?_
 exact snd_var
 refine snd_then ?_ ?_
 refine snd_assign ?_
 refine snd_list ?_
 exact snd_nil
 refine snd_then ?_ ?_
 refine snd_assign_comp ?_ Tgt.one ?_ ?_ (by rfl) (by intro env h; rcases env; subst h; rfl)
 refine sndIt_seq ?_
 exact snd_var
 exact SndIfs.nil
 refine snd_list ?_
 exact snd_nil
 refine snd_then ?_ ?_
 refine snd_assign ?_
 refine snd_list ?_
 exact snd_nil
 refine snd_then ?_ ?_
 refine snd_for ?_ Tgt.one (by rfl) ?_
 refine sndIt_seq ?_
 refine snd_attr ?_
 exact snd_var
 refine snd_then ?_ ?_
 refine snd_assign ?_
 exact snd_int
 refine snd_then ?_ ?_
 refine snd_for ?_ Tgt.one (by rfl) ?_
 refine sndIt_seq ?_
 refine snd_attr ?_
 exact snd_var
 refine snd_then ?_ ?_
 refine snd_if ?_ ?_ ?_
 refine sndT_not ?_
 refine sndT_val ?_
 refine snd_sub ?_ ?_
 exact snd_var
 exact snd_var
 refine snd_then ?_ ?_
 refine snd_assign ?_
 refine snd_bin ?_ ?_
 exact snd_var
 exact snd_int
 refine snd_then ?_ ?_
 refine snd_expr ?_
 refine snd_append ?_ ?_
 refine snd_sub ?_ ?_
 exact snd_var
 exact snd_var
 refine snd_attr ?_
 exact snd_var
 exact snd_done
 exact snd_done
 exact snd_done
 refine snd_then ?_ ?_
 refine snd_expr ?_
 refine snd_append ?_ ?_
 exact snd_var
 exact snd_var
 exact snd_done
 refine snd_then ?_ ?_
 refine snd_for ?_ Tgt.one (by rfl) ?_
 refine sndIt_seq ?_
 refine snd_attr ?_
 exact snd_var
 refine snd_then ?_ ?_
 refine snd_if ?_ ?_ ?_
 refine sndT_and ?_ ?_
 refine sndT_cmp ?_ ?_
 refine snd_sub ?_ ?_
 exact snd_var
 refine snd_attr ?_
 exact snd_var
 exact snd_int
 refine sndT_not ?_
 refine sndT_val ?_
 refine snd_sub ?_ ?_
 exact snd_var
 refine snd_attr ?_
 exact snd_var
 refine snd_then ?_ ?_
 refine snd_setSub ?_ ?_ ?_
 exact snd_var
 refine snd_attr ?_
 exact snd_var
 exact snd_bool
 refine snd_then ?_ ?_
 refine snd_expr ?_
 refine snd_append ?_ ?_
 exact snd_var
 refine snd_attr ?_
 exact snd_var
 exact snd_done
 exact snd_done
 exact snd_done
 refine snd_then ?_ ?_
 refine snd_assign ?_
 exact snd_int
 refine snd_then ?_ ?_
 refine snd_while ?_ ?_
 refine sndT_cmp ?_ ?_
 exact snd_var
 refine snd_len ?_
 exact snd_var
 refine snd_then ?_ ?_
 refine snd_for ?_ Tgt.one (by rfl) ?_
 refine sndIt_seq ?_
 refine snd_sub ?_ ?_
 exact snd_var
 refine snd_sub ?_ ?_
 exact snd_var
 exact snd_var
 refine snd_then ?_ ?_
 refine snd_setSub ?_ ?_ ?_
 exact snd_var
 exact snd_var
 refine snd_bin ?_ ?_
 refine snd_sub ?_ ?_
 exact snd_var
 exact snd_var
 exact snd_int
 refine snd_then ?_ ?_
 refine snd_assign ?_
 refine snd_attr ?_
 refine snd_sub ?_ ?_
 refine snd_attr ?_
 exact snd_var
 exact snd_var
 refine snd_then ?_ ?_
 refine snd_if ?_ ?_ ?_
 refine sndT_and ?_ ?_
 refine sndT_cmp ?_ ?_
 refine snd_sub ?_ ?_
 exact snd_var
 exact snd_var
 exact snd_int
 refine sndT_not ?_
 refine sndT_val ?_
 refine snd_sub ?_ ?_
 exact snd_var
 exact snd_var
 refine snd_then ?_ ?_
 refine snd_setSub ?_ ?_ ?_
 exact snd_var
 exact snd_var
 exact snd_bool
 refine snd_then ?_ ?_
 refine snd_expr ?_
 refine snd_append ?_ ?_
 exact snd_var
 exact snd_var
 exact snd_done
 exact snd_done
 exact snd_done
 refine snd_then ?_ ?_
 refine snd_assign ?_
 refine snd_bin ?_ ?_
 exact snd_var
 exact snd_int
 exact snd_done
 refine snd_then ?_ ?_
 refine snd_ret ?_
 exact snd_var
 exact snd_done
theorem ok_nullable {G : Gd} {C : CS} {n : Nat} (HC : SndC G C n) : SndSs G C n (scOf (stAt 3)) body_nullable (bdOf (stAt 3)) := by
 show SndSs G C n (Scope.mk _ _ _ _ _) _ (_ :: _)
 unfold body_nullable
 refine snd_then ?_ ?_
 refine snd_ret ?_
 refine snd_call HC ?_
 refine snd_cons ?_ ?_
 exact snd_var
 refine snd_cons ?_ ?_
 refine snd_bin ?_ ?_
 refine snd_list ?_
 refine snd_cons ?_ ?_
 exact snd_bool
 exact snd_nil
 refine snd_meth HC ?_ ?_
 exact snd_var
 exact snd_nil
 exact snd_nil
 exact snd_done
theorem ok_first_of {G : Gd} {C : CS} {n : Nat} (HC : SndC G C n) : SndSs G C n (scOf (stAt 4)) body_first_of (bdOf (stAt 4)) := by
 show SndSs G C n (Scope.mk _ _ _ _ _) _ (_ :: _)
 unfold body_first_of
 refine snd_then ?_ ?_
 refine snd_assign ?_
 exact snd_int
 refine snd_then ?_ ?_
 refine snd_for ?_ Tgt.one (by rfl) ?_
 refine sndIt_seq ?_
 exact snd_var
 refine snd_then ?_ ?_
 refine snd_assign ?_
 refine snd_bin ?_ ?_
 exact snd_var
 refine snd_sub ?_ ?_
 exact snd_var
 exact snd_var
 refine snd_then ?_ ?_
 refine snd_if ?_ ?_ ?_
 refine sndT_not ?_
 refine sndT_val ?_
 refine snd_sub ?_ ?_
 exact snd_var
 exact snd_var
 refine snd_then ?_ ?_
 refine snd_ret ?_
 refine snd_tup ?_
 refine snd_cons ?_ ?_
 exact snd_var
 refine snd_cons ?_ ?_
 exact snd_bool
 exact snd_nil
 exact snd_done
 exact snd_done
 exact snd_done
 refine snd_then ?_ ?_
 refine snd_ret ?_
 refine snd_tup ?_
 refine snd_cons ?_ ?_
 exact snd_var
 refine snd_cons ?_ ?_
 exact snd_bool
 exact snd_nil
 exact snd_done
theorem ok_first_masks {G : Gd} {C : CS} {n : Nat} (HC : SndC G C n) : SndSs G C n (scOf (stAt 5)) body_first_masks (bdOf (stAt 5)) := by
 show SndSs G C n (Scope.mk _ _ _ _ _) _ (_ :: _)
 unfold body_first_masks
 refine snd_then ?_ ?_
 refine snd_assign ?_
 refine snd_call HC ?_
 refine snd_cons ?_ ?_
 exact snd_var
 exact snd_nil
 refine snd_then ?_ ?_
 refine snd_assign ?_
 refine snd_list ?_
 exact snd_nil
 refine snd_then ?_ ?_
 refine snd_for ?_ Tgt.one (by rfl) ?_
 refine sndIt_range ?_
 refine snd_meth HC ?_ ?_
 exact snd_var
 exact snd_nil
 refine snd_then ?_ ?_
 refine snd_expr ?_
 refine snd_append ?_ ?_
 exact snd_var
 refine snd_ite ?_ ?_ ?_
 refine sndT_val ?_
 refine snd_meth HC ?_ ?_
 exact snd_var
 refine snd_cons ?_ ?_
 exact snd_var
 exact snd_nil
 refine snd_bin ?_ ?_
 exact snd_int
 exact snd_var
 exact snd_int
 exact snd_done
 refine snd_then ?_ ?_
 refine snd_assign ?_
 exact snd_bool
 refine snd_then ?_ ?_
 refine snd_while ?_ ?_
 refine sndT_val ?_
 exact snd_var
 refine snd_then ?_ ?_
 refine snd_assign ?_
 exact snd_bool
 refine snd_then ?_ ?_
 refine snd_for ?_ Tgt.one (by rfl) ?_
 refine sndIt_seq ?_
 refine snd_attr ?_
 exact snd_var
 refine snd_then ?_ ?_
 refine snd_assign ?_
 refine snd_bin ?_ ?_
 refine snd_sub ?_ ?_
 exact snd_var
 refine snd_attr ?_
 exact snd_var
 refine snd_sub ?_ ?_
 refine snd_call HC ?_
 refine snd_cons ?_ ?_
 refine snd_attr ?_
 exact snd_var
 refine snd_cons ?_ ?_
 exact snd_var
 refine snd_cons ?_ ?_
 exact snd_var
 exact snd_nil
 exact snd_int
 refine snd_then ?_ ?_
 refine snd_if ?_ ?_ ?_
 refine sndT_cmp ?_ ?_
 exact snd_var
 refine snd_sub ?_ ?_
 exact snd_var
 refine snd_attr ?_
 exact snd_var
 refine snd_then ?_ ?_
 refine snd_setSub ?_ ?_ ?_
 exact snd_var
 refine snd_attr ?_
 exact snd_var
 exact snd_var
 refine snd_then ?_ ?_
 refine snd_assign ?_
 exact snd_bool
 exact snd_done
 exact snd_done
 exact snd_done
 exact snd_done
 refine snd_then ?_ ?_
 refine snd_ret ?_
 exact snd_var
 exact snd_done
theorem ok_spread_items {G : Gd} {C : CS} {n : Nat} (HC : SndC G C n) : SndSs G C n (scOf (stAt 7)) body_spread_items (bdOf (stAt 7)) := by
 show SndSs G C n (Scope.mk _ _ _ _ _) _ (_ :: _)
 unfold body_spread_items
 refine snd_then ?_ ?_
 refine snd_assign ?_
 refine snd_dictOf ?_
 exact snd_var
 refine snd_then ?_ ?_
 refine snd_assign ?_
 refine snd_sortedKeys ?_
 exact snd_var
 refine snd_then ?_ ?_
 refine snd_assign ?_
 exact snd_int
 refine snd_then ?_ ?_
 refine snd_while ?_ ?_
 refine sndT_cmp ?_ ?_
 exact snd_var
 refine snd_len ?_
 exact snd_var
 refine snd_then ?_ ?_
 refine snd_assign ?_
 refine snd_sub ?_ ?_
 exact snd_var
 exact snd_var
 refine snd_then ?_ ?_
 refine snd_assign ?_
 refine snd_bin ?_ ?_
 exact snd_var
 exact snd_int
 refine snd_then ?_ ?_
 refine snd_assign ?_
 refine snd_meth HC ?_ ?_
 exact snd_var
 refine snd_cons ?_ ?_
 exact snd_var
 exact snd_nil
 refine snd_then ?_ ?_
 refine snd_if ?_ ?_ ?_
 refine sndT_or ?_ ?_
 refine sndT_cmp ?_ ?_
 exact snd_var
 exact snd_int
 refine sndT_val ?_
 refine snd_meth HC ?_ ?_
 exact snd_var
 refine snd_cons ?_ ?_
 exact snd_var
 exact snd_nil
 refine snd_then ?_ ?_
 exact snd_cont
 exact snd_done
 exact snd_done
 refine snd_then ?_ ?_
 refine snd_assign ?_
 refine snd_attr ?_
 refine snd_sub ?_ ?_
 refine snd_attr ?_
 exact snd_var
 refine snd_meth HC ?_ ?_
 exact snd_var
 refine snd_cons ?_ ?_
 exact snd_var
 exact snd_nil
 refine snd_then ?_ ?_
 refine snd_unpack ?_ (Tgt.many (.cons (.cons .nil))) (by decide) (by rfl) (fun env => ⟨_, _, _, rfl, rfl, rfl⟩)
 refine snd_call HC ?_
 refine snd_cons ?_ ?_
 refine snd_slFrom ?_ ?_
 exact snd_var
 refine snd_bin ?_ ?_
 refine snd_meth HC ?_ ?_
 exact snd_var
 refine snd_cons ?_ ?_
 exact snd_var
 exact snd_nil
 exact snd_int
 refine snd_cons ?_ ?_
 exact snd_var
 refine snd_cons ?_ ?_
 exact snd_var
 exact snd_nil
 refine snd_then ?_ ?_
 refine snd_if ?_ ?_ ?_
 refine sndT_val ?_
 exact snd_var
 refine snd_then ?_ ?_
 refine snd_assign ?_
 refine snd_bin ?_ ?_
 exact snd_var
 refine snd_sub ?_ ?_
 exact snd_var
 exact snd_var
 exact snd_done
 exact snd_done
 refine snd_then ?_ ?_
 refine snd_for ?_ Tgt.one (by rfl) ?_
 refine sndIt_seq ?_
 refine snd_meth HC ?_ ?_
 exact snd_var
 refine snd_cons ?_ ?_
 exact snd_var
 exact snd_nil
 refine snd_then ?_ ?_
 refine snd_assign ?_
 refine snd_meth HC ?_ ?_
 exact snd_var
 refine snd_cons ?_ ?_
 exact snd_var
 refine snd_cons ?_ ?_
 exact snd_int
 exact snd_nil
 refine snd_then ?_ ?_
 refine snd_assign ?_
 refine snd_get ?_ ?_ ?_
 exact snd_var
 exact snd_var
 exact snd_negOne
 refine snd_then ?_ ?_
 refine snd_if ?_ ?_ ?_
 refine sndT_or ?_ ?_
 refine sndT_cmp ?_ ?_
 exact snd_var
 exact snd_negOne
 refine sndT_cmp ?_ ?_
 refine snd_bin ?_ ?_
 exact snd_var
 exact snd_var
 exact snd_var
 refine snd_then ?_ ?_
 refine snd_setSub ?_ ?_ ?_
 exact snd_var
 exact snd_var
 refine snd_ite ?_ ?_ ?_
 refine sndT_cmp ?_ ?_
 exact snd_var
 exact snd_negOne
 exact snd_var
 refine snd_bin ?_ ?_
 exact snd_var
 exact snd_var
 refine snd_then ?_ ?_
 refine snd_expr ?_
 refine snd_append ?_ ?_
 exact snd_var
 exact snd_var
 exact snd_done
 exact snd_done
 exact snd_done
 exact snd_done
 refine snd_then ?_ ?_
 refine snd_ret ?_
 exact snd_var
 exact snd_done
theorem ok_ruleInit {G : Gd} {C : CS} {n : Nat} (HC : SndC G C n) : SndSs G C n (scOf (mAt 14 0)) body_ruleInit (bdOf (mAt 14 0)) := by
 show SndSs G C n (Scope.mk _ _ _ _ _) _ (_ :: _)
 unfold body_ruleInit
 refine snd_then ?_ ?_
 refine snd_setAttr ?_
 exact snd_var
 refine snd_then ?_ ?_
 refine snd_setAttr ?_
 exact snd_var
 refine snd_then ?_ ?_
 refine snd_setAttr ?_
 exact snd_var
 refine snd_then ?_ ?_
 refine snd_setAttr ?_
 exact snd_var
 refine snd_then ?_ ?_
 refine snd_setAttr ?_
 exact snd_var
 refine snd_then ?_ ?_
 refine snd_setAttr ?_
 exact snd_var
 refine snd_then ?_ ?_
 refine snd_setAttr ?_
 exact snd_var
 exact snd_done
theorem ok_grammarInit {G : Gd} {C : CS} {n : Nat} (HC : SndC G C n) : SndSs G C n (scOf (mAt 15 0)) body_grammarInit (bdOf (mAt 15 0)) := by
 show SndSs G C n (Scope.mk _ _ _ _ _) _ (_ :: _)
 unfold body_grammarInit
 refine snd_then ?_ ?_
 refine snd_setAttr ?_
 exact snd_var
 refine snd_then ?_ ?_
 refine snd_setAttr ?_
 exact snd_var
 refine snd_then ?_ ?_
 refine snd_setAttr ?_
 exact snd_var
 refine snd_then ?_ ?_
 refine snd_setAttr ?_
 exact snd_var
 refine snd_then ?_ ?_
 refine snd_setAttr ?_
 exact snd_var
 refine snd_then ?_ ?_
 refine snd_setAttr ?_
 exact snd_var
 refine snd_then ?_ ?_
 refine snd_setAttr ?_
 refine snd_comp ?_ Tgt.one ?_ ?_ (by rfl)
 refine sndIt_seq ?_
 refine snd_attr ?_
 exact snd_var
 exact SndIfs.nil
 refine snd_list ?_
 exact snd_nil
 refine snd_then ?_ ?_
 refine snd_setAttr ?_
 refine snd_list ?_
 exact snd_nil
 refine snd_then ?_ ?_
 refine snd_setAttr ?_
 refine snd_list ?_
 exact snd_nil
 refine snd_then ?_ ?_
 refine snd_for ?_ Tgt.one (by rfl) ?_
 refine sndIt_seq ?_
 refine snd_attr ?_
 exact snd_var
 refine snd_then ?_ ?_
 refine snd_expr ?_
 refine snd_append ?_ ?_
 refine snd_sub ?_ ?_
 refine snd_attr ?_
 exact snd_var
 refine snd_attr ?_
 exact snd_var
 refine snd_attr ?_
 exact snd_var
 refine snd_then ?_ ?_
 refine snd_expr ?_
 refine snd_append ?_ ?_
 refine snd_attr ?_
 exact snd_var
 refine snd_len ?_
 refine snd_attr ?_
 exact snd_var
 refine snd_then ?_ ?_
 refine snd_expr ?_
 refine snd_extend ?_ ?_
 refine snd_attr ?_
 exact snd_var
 refine snd_bin ?_ ?_
 refine snd_list ?_
 refine snd_cons ?_ ?_
 refine snd_attr ?_
 exact snd_var
 exact snd_nil
 refine snd_bin ?_ ?_
 refine snd_len ?_
 refine snd_attr ?_
 exact snd_var
 exact snd_int
 exact snd_done
 refine snd_then ?_ ?_
 refine snd_setAttr ?_
 refine snd_len ?_
 refine snd_attr ?_
 exact snd_var
 exact snd_done
theorem ok_symbol_count {G : Gd} {C : CS} {n : Nat} (HC : SndC G C n) : SndSs G C n (scOf (mAt 15 1)) body_symbol_count (bdOf (mAt 15 1)) := by
 show SndSs G C n (Scope.mk _ _ _ _ _) _ (_ :: _)
 unfold body_symbol_count
 refine snd_then ?_ ?_
 refine snd_ret ?_
 refine snd_len ?_
 refine snd_attr ?_
 exact snd_var
 exact snd_done
theorem ok_is_terminal {G : Gd} {C : CS} {n : Nat} (HC : SndC G C n) : SndSs G C n (scOf (mAt 15 2)) body_is_terminal (bdOf (mAt 15 2)) := by
 show SndSs G C n (Scope.mk _ _ _ _ _) _ (_ :: _)
 unfold body_is_terminal
 refine snd_then ?_ ?_
 refine snd_ret ?_
 refine snd_cmp ?_ ?_
 exact snd_var
 refine snd_attr ?_
 exact snd_var
 exact snd_done
theorem ok_gnumber {G : Gd} {C : CS} {n : Nat} (HC : SndC G C n) : SndSs G C n (scOf (mAt 15 4)) body_gnumber (bdOf (mAt 15 4)) := by
 show SndSs G C n (Scope.mk _ _ _ _ _) _ (_ :: _)
 unfold body_gnumber
 refine snd_then ?_ ?_
 refine snd_ret ?_
 refine snd_ite ?_ ?_ ?_
 refine sndT_cmp ?_ ?_
 exact snd_var
 refine snd_attr ?_
 exact snd_var
 refine snd_index ?_ ?_
 refine snd_attr ?_
 exact snd_var
 exact snd_var
 exact snd_negOne
 exact snd_done
theorem ok_rules_of {G : Gd} {C : CS} {n : Nat} (HC : SndC G C n) : SndSs G C n (scOf (mAt 15 5)) body_rules_of (bdOf (mAt 15 5)) := by
 show SndSs G C n (Scope.mk _ _ _ _ _) _ (_ :: _)
 unfold body_rules_of
 refine snd_then ?_ ?_
 refine snd_ret ?_
 refine snd_listOf ?_
 refine snd_sub ?_ ?_
 refine snd_attr ?_
 exact snd_var
 exact snd_var
 exact snd_done
theorem ok_gitem {G : Gd} {C : CS} {n : Nat} (HC : SndC G C n) : SndSs G C n (scOf (mAt 15 6)) body_gitem (bdOf (mAt 15 6)) := by
 show SndSs G C n (Scope.mk _ _ _ _ _) _ (_ :: _)
 unfold body_gitem
 refine snd_then ?_ ?_
 refine snd_ret ?_
 refine snd_bin ?_ ?_
 refine snd_sub ?_ ?_
 refine snd_attr ?_
 exact snd_var
 exact snd_var
 exact snd_var
 exact snd_done
theorem ok_rule_of {G : Gd} {C : CS} {n : Nat} (HC : SndC G C n) : SndSs G C n (scOf (mAt 15 7)) body_rule_of (bdOf (mAt 15 7)) := by
 show SndSs G C n (Scope.mk _ _ _ _ _) _ (_ :: _)
 unfold body_rule_of
 refine snd_then ?_ ?_
 refine snd_ret ?_
 refine snd_sub ?_ ?_
 refine snd_attr ?_
 exact snd_var
 exact snd_var
 exact snd_done
theorem ok_dot_of {G : Gd} {C : CS} {n : Nat} (HC : SndC G C n) : SndSs G C n (scOf (mAt 15 8)) body_dot_of (bdOf (mAt 15 8)) := by
 show SndSs G C n (Scope.mk _ _ _ _ _) _ (_ :: _)
 unfold body_dot_of
 refine snd_then ?_ ?_
 refine snd_ret ?_
 refine snd_bin ?_ ?_
 exact snd_var
 refine snd_sub ?_ ?_
 refine snd_attr ?_
 exact snd_var
 refine snd_sub ?_ ?_
 refine snd_attr ?_
 exact snd_var
 exact snd_var
 exact snd_done
theorem ok_after {G : Gd} {C : CS} {n : Nat} (HC : SndC G C n) : SndSs G C n (scOf (mAt 15 9)) body_after (bdOf (mAt 15 9)) := by
 show SndSs G C n (Scope.mk _ _ _ _ _) _ (_ :: _)
 unfold body_after
 refine snd_then ?_ ?_
 refine snd_assign ?_
 refine snd_attr ?_
 refine snd_sub ?_ ?_
 refine snd_attr ?_
 exact snd_var
 refine snd_sub ?_ ?_
 refine snd_attr ?_
 exact snd_var
 exact snd_var
 refine snd_then ?_ ?_
 refine snd_assign ?_
 refine snd_bin ?_ ?_
 exact snd_var
 refine snd_sub ?_ ?_
 refine snd_attr ?_
 exact snd_var
 refine snd_sub ?_ ?_
 refine snd_attr ?_
 exact snd_var
 exact snd_var
 refine snd_then ?_ ?_
 refine snd_ret ?_
 refine snd_ite ?_ ?_ ?_
 refine sndT_cmp ?_ ?_
 exact snd_var
 refine snd_len ?_
 exact snd_var
 refine snd_sub ?_ ?_
 exact snd_var
 exact snd_var
 exact snd_negOne
 exact snd_done
theorem ok_last_terminal {G : Gd} {C : CS} {n : Nat} (HC : SndC G C n) : SndSs G C n (scOf (stAt 16)) body_last_terminal (bdOf (stAt 16)) := by
 show SndSs G C n (Scope.mk _ _ _ _ _) _ (_ :: _)
 unfold body_last_terminal
 refine snd_then ?_ ?_
 refine snd_assign ?_
 exact snd_negOne
 refine snd_then ?_ ?_
 refine snd_for ?_ Tgt.one (by rfl) ?_
 refine sndIt_seq ?_
 exact snd_var
 refine snd_then ?_ ?_
 refine snd_if ?_ ?_ ?_
 refine sndT_cmp ?_ ?_
 exact snd_var
 exact snd_var
 refine snd_then ?_ ?_
 refine snd_assign ?_
 exact snd_var
 exact snd_done
 exact snd_done
 exact snd_done
 refine snd_then ?_ ?_
 refine snd_ret ?_
 exact snd_var
 exact snd_done
theorem ok_plain_grammar {G : Gd} {C : CS} {n : Nat} (HC : SndC G C n) : SndSs G C n (scOf (stAt 17)) body_plain_grammar (bdOf (stAt 17)) := by
 show SndSs G C n (Scope.mk _ _ _ _ _) _ (_ :: _)
 unfold body_plain_grammar
 refine snd_then ?_ ?_
 refine snd_assign ?_
 refine snd_list ?_
 exact snd_nil
 refine snd_then ?_ ?_
 refine snd_for ?_ (Tgt.many (.cons (.cons .nil))) (by rfl) ?_
 refine sndIt_seq ?_
 exact snd_var
 refine snd_then ?_ ?_
 refine snd_if ?_ ?_ ?_
 exact sndT_badName
 refine snd_then ?_ ?_
 exact snd_raise
 exact snd_done
 exact snd_done
 refine snd_then ?_ ?_
 refine snd_if ?_ ?_ ?_
 refine sndT_cmp ?_ ?_
 exact snd_var
 exact snd_var
 refine snd_then ?_ ?_
 refine snd_expr ?_
 refine snd_append ?_ ?_
 exact snd_var
 exact snd_var
 exact snd_done
 exact snd_done
 exact snd_done
 refine snd_then ?_ ?_
 refine snd_assign ?_
 refine snd_ite ?_ ?_ ?_
 refine sndT_or ?_ ?_
 refine sndT_cmp ?_ ?_
 exact snd_var
 exact snd_none
 refine sndT_cmp ?_ ?_
 exact snd_var
 refine snd_list ?_
 exact snd_nil
 exact snd_var
 refine snd_sub ?_ ?_
 exact snd_var
 exact snd_int
 refine snd_then ?_ ?_
 refine snd_if ?_ ?_ ?_
 refine sndT_cmp ?_ ?_
 exact snd_var
 exact snd_var
 refine snd_then ?_ ?_
 exact snd_raise
 exact snd_done
 exact snd_done
 refine snd_then ?_ ?_
 refine snd_assign ?_
 refine snd_listOf ?_
 exact snd_gOwn
 refine snd_then ?_ ?_
 refine snd_for ?_ (Tgt.many (.cons (.cons .nil))) (by rfl) ?_
 refine sndIt_seq ?_
 exact snd_var
 refine snd_then ?_ ?_
 refine snd_for ?_ Tgt.one (by rfl) ?_
 refine sndIt_seq ?_
 exact snd_var
 refine snd_then ?_ ?_
 refine snd_if ?_ ?_ ?_
 refine sndT_and ?_ ?_
 refine sndT_cmp ?_ ?_
 exact snd_var
 exact snd_var
 refine sndT_cmp ?_ ?_
 exact snd_var
 exact snd_var
 refine snd_then ?_ ?_
 refine snd_expr ?_
 refine snd_append ?_ ?_
 exact snd_var
 exact snd_var
 exact snd_done
 exact snd_done
 exact snd_done
 exact snd_done
 refine snd_then ?_ ?_
 refine snd_assign ?_
 refine snd_len ?_
 exact snd_var
 refine snd_then ?_ ?_
 refine snd_assign ?_
 refine snd_bin ?_ ?_
 refine snd_bin ?_ ?_
 exact snd_var
 refine snd_list ?_
 refine snd_cons ?_ ?_
 exact snd_str
 exact snd_nil
 exact snd_var
 refine snd_then ?_ ?_
 refine snd_assign ?_
 refine snd_list ?_
 refine snd_cons ?_ ?_
 refine snd_mk (c := .rule) HC ?_
 refine snd_cons ?_ ?_
 exact snd_int
 refine snd_cons ?_ ?_
 exact snd_var
 refine snd_cons ?_ ?_
 refine snd_tup ?_
 refine snd_cons ?_ ?_
 refine snd_index ?_ ?_
 exact snd_var
 exact snd_var
 refine snd_cons ?_ ?_
 exact snd_gEnd
 exact snd_nil
 refine snd_cons ?_ ?_
 exact snd_gEnd
 exact snd_nil
 exact snd_nil
 refine snd_then ?_ ?_
 refine snd_for ?_ (Tgt.many (.cons (.cons .nil))) (by rfl) ?_
 refine sndIt_seq ?_
 exact snd_var
 refine snd_then ?_ ?_
 refine snd_assign ?_
 refine snd_tupleOf ?_
 refine snd_comp ?_ Tgt.one ?_ ?_ (by rfl)
 refine sndIt_seq ?_
 exact snd_var
 exact SndIfs.nil
 refine snd_index ?_ ?_
 exact snd_var
 exact snd_var
 refine snd_then ?_ ?_
 refine snd_expr ?_
 refine snd_append ?_ ?_
 exact snd_var
 refine snd_mk (c := .rule) HC ?_
 refine snd_cons ?_ ?_
 refine snd_len ?_
 exact snd_var
 refine snd_cons ?_ ?_
 refine snd_index ?_ ?_
 exact snd_var
 exact snd_var
 refine snd_cons ?_ ?_
 exact snd_var
 refine snd_cons ?_ ?_
 refine snd_call HC ?_
 refine snd_cons ?_ ?_
 exact snd_var
 refine snd_cons ?_ ?_
 exact snd_var
 exact snd_nil
 exact snd_nil
 exact snd_done
 refine snd_then ?_ ?_
 refine snd_ret ?_
 refine snd_mk (c := .grammar) HC ?_
 refine snd_cons ?_ ?_
 exact snd_var
 refine snd_cons ?_ ?_
 exact snd_var
 refine snd_cons ?_ ?_
 exact snd_var
 refine snd_cons ?_ ?_
 exact snd_dict0
 refine snd_cons ?_ ?_
 exact snd_none
 refine snd_cons ?_ ?_
 refine snd_index ?_ ?_
 exact snd_var
 exact snd_var
 exact snd_nil
 exact snd_done
theorem ok_law_pen {G : Gd} {C : CS} {n : Nat} (HC : SndC G C n) : SndSs G C n (scOf (stAt 19)) body_law_pen (bdOf (stAt 19)) := by
 show SndSs G C n (Scope.mk _ _ _ _ _) _ (_ :: _)
 unfold body_law_pen
 refine snd_then ?_ ?_
 refine snd_ret ?_
 refine snd_list ?_
 refine snd_cons ?_ ?_
 refine snd_comp ?_ Tgt.one ?_ ?_ (by rfl)
 refine sndIt_seq ?_
 refine snd_slTo ?_ ?_
 exact snd_var
 exact snd_int
 exact SndIfs.nil
 refine snd_bin ?_ ?_
 refine snd_bin ?_ ?_
 exact snd_int
 refine snd_absOf ?_
 refine snd_intOf ?_
 exact snd_var
 refine snd_intOf ?_
 refine snd_cmp ?_ ?_
 exact snd_var
 exact snd_int
 refine snd_cons ?_ ?_
 exact snd_int
 refine snd_cons ?_ ?_
 exact snd_int
 exact snd_nil
 exact snd_done
theorem ok_law_draw {G : Gd} {C : CS} {n : Nat} (HC : SndC G C n) : SndSs G C n (scOf (stAt 20)) body_law_draw (bdOf (stAt 20)) := by
 show SndSs G C n (Scope.mk _ _ _ _ _) _ (_ :: _)
 unfold body_law_draw
 refine snd_then ?_ ?_
 refine snd_setSub ?_ ?_ ?_
 exact snd_var
 exact snd_int
 refine snd_bin ?_ ?_
 refine snd_sub ?_ ?_
 exact snd_var
 exact snd_int
 exact snd_int
 refine snd_then ?_ ?_
 refine snd_if ?_ ?_ ?_
 refine sndT_and ?_ ?_
 refine sndT_cmp ?_ ?_
 refine snd_sub ?_ ?_
 exact snd_var
 exact snd_int
 exact snd_int
 refine sndT_cmp ?_ ?_
 refine snd_sub ?_ ?_
 exact snd_var
 exact snd_int
 refine snd_list ?_
 exact snd_nil
 refine snd_then ?_ ?_
 refine snd_setSub ?_ ?_ ?_
 exact snd_var
 exact snd_int
 refine snd_pop0 ?_
 refine snd_sub ?_ ?_
 exact snd_var
 exact snd_int
 exact snd_done
 exact snd_done
 refine snd_then ?_ ?_
 refine snd_assign ?_
 refine snd_bin ?_ ?_
 refine snd_intOf ?_
 refine snd_sub ?_ ?_
 exact snd_var
 exact snd_int
 exact snd_var
 refine snd_then ?_ ?_
 refine snd_setSub ?_ ?_ ?_
 exact snd_var
 exact snd_int
 refine snd_bin ?_ ?_
 refine snd_intOf ?_
 refine snd_sub ?_ ?_
 exact snd_var
 exact snd_int
 exact snd_var
 refine snd_then ?_ ?_
 refine snd_ret ?_
 refine snd_bin ?_ ?_
 refine snd_bin ?_ ?_
 exact snd_var
 refine snd_sub ?_ ?_
 exact snd_var
 exact snd_int
 exact snd_var
 exact snd_done
theorem ok_law_pick {G : Gd} {C : CS} {n : Nat} (HC : SndC G C n) : SndSs G C n (scOf (stAt 21)) body_law_pick (bdOf (stAt 21)) := by
 show SndSs G C n (Scope.mk _ _ _ _ _) _ (_ :: _)
 unfold body_law_pick
 refine snd_then ?_ ?_
 refine snd_ret ?_
 refine snd_sub ?_ ?_
 exact snd_var
 refine snd_call HC ?_
 refine snd_cons ?_ ?_
 exact snd_var
 refine snd_cons ?_ ?_
 refine snd_len ?_
 exact snd_var
 exact snd_nil
 exact snd_done
theorem ok_law_pairs {G : Gd} {C : CS} {n : Nat} (HC : SndC G C n) : SndSs G C n (scOf (stAt 22)) body_law_pairs (bdOf (stAt 22)) := by
 show SndSs G C n (Scope.mk _ _ _ _ _) _ (_ :: _)
 unfold body_law_pairs
 refine snd_then ?_ ?_
 refine snd_assign ?_
 refine snd_slTo ?_ ?_
 refine snd_list ?_
 refine snd_cons ?_ ?_
 exact snd_str
 refine snd_cons ?_ ?_
 exact snd_str
 refine snd_cons ?_ ?_
 exact snd_str
 exact snd_nil
 refine snd_call HC ?_
 refine snd_cons ?_ ?_
 exact snd_var
 refine snd_cons ?_ ?_
 refine snd_list ?_
 refine snd_cons ?_ ?_
 exact snd_int
 refine snd_cons ?_ ?_
 exact snd_int
 refine snd_cons ?_ ?_
 exact snd_int
 refine snd_cons ?_ ?_
 exact snd_int
 exact snd_nil
 exact snd_nil
 refine snd_then ?_ ?_
 refine snd_assign ?_
 refine snd_list ?_
 exact snd_nil
 refine snd_then ?_ ?_
 refine snd_for ?_ Tgt.one (by rfl) ?_
 refine sndIt_seq ?_
 exact snd_var
 refine snd_then ?_ ?_
 refine snd_expr ?_
 refine snd_append ?_ ?_
 exact snd_var
 refine snd_tup ?_
 refine snd_cons ?_ ?_
 exact snd_var
 refine snd_cons ?_ ?_
 refine snd_comp ?_ Tgt.one ?_ ?_ (by rfl)
 refine sndIt_range ?_
 refine snd_call HC ?_
 refine snd_cons ?_ ?_
 exact snd_var
 refine snd_cons ?_ ?_
 refine snd_list ?_
 refine snd_cons ?_ ?_
 exact snd_int
 refine snd_cons ?_ ?_
 exact snd_int
 refine snd_cons ?_ ?_
 exact snd_int
 refine snd_cons ?_ ?_
 exact snd_int
 exact snd_nil
 exact snd_nil
 exact SndIfs.nil
 refine snd_call HC ?_
 refine snd_cons ?_ ?_
 exact snd_var
 refine snd_cons ?_ ?_
 refine snd_list ?_
 refine snd_cons ?_ ?_
 exact snd_str
 refine snd_cons ?_ ?_
 exact snd_str
 refine snd_cons ?_ ?_
 exact snd_str
 exact snd_nil
 exact snd_nil
 exact snd_nil
 exact snd_done
 refine snd_then ?_ ?_
 refine snd_for ?_ Tgt.one (by rfl) ?_
 refine sndIt_range ?_
 refine snd_max ?_ ?_
 exact snd_int
 refine snd_bin ?_ ?_
 exact snd_int
 refine snd_len ?_
 exact snd_var
 refine snd_then ?_ ?_
 refine snd_assign2 ?_ ?_ (h2 := by intro env h; rcases env; subst h; first | exact .inl rfl | exact .inr rfl)
 refine snd_call HC ?_
 refine snd_cons ?_ ?_
 exact snd_var
 refine snd_cons ?_ ?_
 exact snd_var
 exact snd_nil
 refine snd_call HC ?_
 refine snd_cons ?_ ?_
 exact snd_var
 refine snd_cons ?_ ?_
 refine snd_list ?_
 refine snd_cons ?_ ?_
 exact snd_int
 refine snd_cons ?_ ?_
 exact snd_int
 refine snd_cons ?_ ?_
 exact snd_int
 refine snd_cons ?_ ?_
 exact snd_int
 exact snd_nil
 exact snd_nil
 refine snd_then ?_ ?_
 refine snd_expr ?_
 refine snd_append ?_ ?_
 exact snd_var
 refine snd_tup ?_
 refine snd_cons ?_ ?_
 exact snd_var
 refine snd_cons ?_ ?_
 refine snd_comp ?_ Tgt.one ?_ ?_ (by rfl)
 refine sndIt_range ?_
 exact snd_var
 exact SndIfs.nil
 refine snd_call HC ?_
 refine snd_cons ?_ ?_
 exact snd_var
 refine snd_cons ?_ ?_
 refine snd_bin ?_ ?_
 refine snd_bin ?_ ?_
 refine snd_list ?_
 refine snd_cons ?_ ?_
 exact snd_str
 refine snd_cons ?_ ?_
 exact snd_str
 exact snd_nil
 exact snd_var
 exact snd_var
 exact snd_nil
 exact snd_nil
 exact snd_done
 refine snd_then ?_ ?_
 refine snd_ret ?_
 exact snd_var
 exact snd_done
theorem ok_law_empty {G : Gd} {C : CS} {n : Nat} (HC : SndC G C n) : SndSs G C n (scOf (stAt 23)) body_law_empty (bdOf (stAt 23)) := by
 show SndSs G C n (Scope.mk _ _ _ _ _) _ (_ :: _)
 unfold body_law_empty
 refine snd_then ?_ ?_
 refine snd_assign2 ?_ ?_ (h2 := by intro env h; rcases env; subst h; first | exact .inl rfl | exact .inr rfl)
 refine snd_list ?_
 exact snd_nil
 exact snd_negOne
 refine snd_then ?_ ?_
 refine snd_while ?_ ?_
 refine sndT_cmp ?_ ?_
 exact snd_var
 refine snd_len ?_
 exact snd_var
 refine snd_then ?_ ?_
 refine snd_assign ?_
 refine snd_len ?_
 exact snd_var
 refine snd_then ?_ ?_
 refine snd_assign ?_
 refine snd_sortedSet ?_
 refine snd_bin ?_ ?_
 exact snd_var
 refine snd_comp ?_ (Tgt.many (.cons (.cons .nil))) ?_ ?_ (by rfl)
 refine sndIt_seq ?_
 exact snd_var
 refine SndIfs.one ?_
 refine sndT_cmp ?_ ?_
 refine snd_comp ?_ Tgt.one ?_ ?_ (by rfl)
 refine sndIt_seq ?_
 exact snd_var
 refine SndIfs.one ?_
 refine sndT_cmp ?_ ?_
 exact snd_var
 exact snd_var
 exact snd_var
 refine snd_list ?_
 exact snd_nil
 exact snd_var
 exact snd_done
 refine snd_then ?_ ?_
 refine snd_ret ?_
 exact snd_var
 exact snd_done
theorem ok_law_ahead {G : Gd} {C : CS} {n : Nat} (HC : SndC G C n) : SndSs G C n (scOf (stAt 24)) body_law_ahead (bdOf (stAt 24)) := by
 show SndSs G C n (Scope.mk _ _ _ _ _) _ (_ :: _)
 unfold body_law_ahead
 refine snd_then ?_ ?_
 refine snd_assign ?_
 refine snd_list ?_
 exact snd_nil
 refine snd_then ?_ ?_
 refine snd_for ?_ Tgt.one (by rfl) ?_
 refine sndIt_seq ?_
 exact snd_var
 refine snd_then ?_ ?_
 refine snd_assign ?_
 refine snd_bin ?_ ?_
 exact snd_var
 refine snd_list ?_
 refine snd_cons ?_ ?_
 exact snd_var
 exact snd_nil
 refine snd_then ?_ ?_
 refine snd_if ?_ ?_ ?_
 refine sndT_cmp ?_ ?_
 exact snd_var
 exact snd_var
 refine snd_then ?_ ?_
 refine snd_ret ?_
 refine snd_tup ?_
 refine snd_cons ?_ ?_
 exact snd_var
 refine snd_cons ?_ ?_
 exact snd_bool
 exact snd_nil
 exact snd_done
 exact snd_done
 exact snd_done
 refine snd_then ?_ ?_
 refine snd_ret ?_
 refine snd_tup ?_
 refine snd_cons ?_ ?_
 exact snd_var
 refine snd_cons ?_ ?_
 exact snd_bool
 exact snd_nil
 exact snd_done
theorem ok_law_begins {G : Gd} {C : CS} {n : Nat} (HC : SndC G C n) : SndSs G C n (scOf (stAt 25)) body_law_begins (bdOf (stAt 25)) := by
 show SndSs G C n (Scope.mk _ _ _ _ _) _ (_ :: _)
 unfold body_law_begins
 refine snd_then ?_ ?_
 refine snd_assign2 ?_ ?_ (h2 := by intro env h; rcases env; subst h; first | exact .inl rfl | exact .inr rfl)
 refine snd_sub ?_ ?_
 refine snd_call HC ?_
 refine snd_cons ?_ ?_
 exact snd_var
 refine snd_cons ?_ ?_
 exact snd_var
 exact snd_nil
 exact snd_int
 exact snd_int
 refine snd_then ?_ ?_
 refine snd_assign ?_ (hs := by intro env h; rcases env; subst h; rfl)
 refine snd_comp ?_ (Tgt.many (.cons (.cons .nil))) ?_ ?_ (by rfl)
 refine sndIt_seq ?_
 exact snd_var
 exact SndIfs.nil
 exact snd_var
 refine snd_then ?_ ?_
 refine snd_while ?_ ?_
 refine sndT_cmp ?_ ?_
 exact snd_var
 refine snd_len ?_
 exact snd_var
 refine snd_then ?_ ?_
 refine snd_for ?_ (Tgt.many (.cons (.cons .nil))) (by rfl) ?_
 refine sndIt_seq ?_
 exact snd_var
 refine snd_then ?_ ?_
 refine snd_if ?_ ?_ ?_
 refine sndT_cmp ?_ ?_
 exact snd_var
 refine snd_sub ?_ ?_
 exact snd_var
 exact snd_var
 refine snd_then ?_ ?_
 refine snd_assign ?_
 refine snd_bin ?_ ?_
 exact snd_var
 refine snd_comp ?_ Tgt.one ?_ ?_ (by rfl)
 refine sndIt_seq ?_
 refine snd_sub ?_ ?_
 refine snd_call HC ?_
 refine snd_cons ?_ ?_
 exact snd_var
 refine snd_cons ?_ ?_
 exact snd_var
 exact snd_nil
 exact snd_int
 refine SndIfs.one ?_
 refine sndT_cmp ?_ ?_
 exact snd_var
 exact snd_var
 exact snd_var
 exact snd_done
 exact snd_done
 exact snd_done
 refine snd_then ?_ ?_
 refine snd_assign ?_
 refine snd_bin ?_ ?_
 exact snd_var
 exact snd_int
 exact snd_done
 refine snd_then ?_ ?_
 refine snd_ret ?_
 refine snd_sortedSet ?_
 refine snd_comp ?_ Tgt.one ?_ ?_ (by rfl)
 refine sndIt_seq ?_
 exact snd_var
 refine SndIfs.one ?_
 refine sndT_cmp ?_ ?_
 exact snd_var
 exact snd_var
 exact snd_var
 exact snd_done
theorem ok_law_pairs_of {G : Gd} {C : CS} {n : Nat} (HC : SndC G C n) : SndSs G C n (scOf (stAt 26)) body_law_pairs_of (bdOf (stAt 26)) := by
 show SndSs G C n (Scope.mk _ _ _ _ _) _ (_ :: _)
 unfold body_law_pairs_of
 refine snd_then ?_ ?_
 refine snd_assign2 ?_ ?_ (h2 := by intro env h; rcases env; subst h; first | exact .inl rfl | exact .inr rfl)
 refine snd_listOf ?_
 exact snd_var
 exact snd_int
 refine snd_then ?_ ?_
 refine snd_while ?_ ?_
 refine sndT_cmp ?_ ?_
 exact snd_var
 refine snd_len ?_
 exact snd_var
 refine snd_then ?_ ?_
 refine snd_unpack ?_ (Tgt.many (.cons (.cons (.cons .nil)))) (by decide) (by rfl) (fun env => ⟨_, _, _, rfl, rfl, rfl⟩)
 refine snd_sub ?_ ?_
 exact snd_var
 exact snd_var
 refine snd_then ?_ ?_
 refine snd_assign ?_
 refine snd_sub ?_ ?_
 refine snd_sub ?_ ?_
 exact snd_var
 exact snd_var
 exact snd_int
 refine snd_then ?_ ?_
 refine snd_if ?_ ?_ ?_
 refine sndT_cmp ?_ ?_
 exact snd_var
 refine snd_len ?_
 exact snd_var
 refine snd_then ?_ ?_
 refine snd_assign ?_
 refine snd_slFrom ?_ ?_
 exact snd_var
 refine snd_bin ?_ ?_
 exact snd_var
 exact snd_int
 refine snd_then ?_ ?_
 refine snd_assign ?_
 refine snd_bin ?_ ?_
 refine snd_bin ?_ ?_
 refine snd_call HC ?_
 refine snd_cons ?_ ?_
 exact snd_var
 refine snd_cons ?_ ?_
 exact snd_var
 refine snd_cons ?_ ?_
 exact snd_var
 exact snd_nil
 refine snd_ite ?_ ?_ ?_
 refine sndT_val ?_
 refine snd_sub ?_ ?_
 refine snd_call HC ?_
 refine snd_cons ?_ ?_
 exact snd_var
 refine snd_cons ?_ ?_
 exact snd_var
 exact snd_nil
 exact snd_int
 refine snd_list ?_
 refine snd_cons ?_ ?_
 exact snd_var
 exact snd_nil
 refine snd_list ?_
 exact snd_nil
 refine snd_list ?_
 refine snd_cons ?_ ?_
 exact snd_str
 exact snd_nil
 refine snd_then ?_ ?_
 refine snd_for ?_ (Tgt.many (.cons (.cons .nil))) (by rfl) ?_
 refine sndIt_enum ?_
 exact snd_var
 refine snd_then ?_ ?_
 refine snd_if ?_ ?_ ?_
 refine sndT_cmp ?_ ?_
 refine snd_sub ?_ ?_
 exact snd_var
 exact snd_int
 refine snd_sub ?_ ?_
 exact snd_var
 exact snd_var
 refine snd_then ?_ ?_
 refine snd_assign ?_
 refine snd_bin ?_ ?_
 exact snd_var
 refine snd_comp ?_ Tgt.one ?_ ?_ (by rfl)
 refine sndIt_seq ?_
 refine snd_sortedSet ?_
 exact snd_var
 refine SndIfs.one ?_
 refine sndT_cmp ?_ ?_
 refine snd_tup ?_
 refine snd_cons ?_ ?_
 exact snd_var
 refine snd_cons ?_ ?_
 exact snd_int
 refine snd_cons ?_ ?_
 exact snd_var
 exact snd_nil
 exact snd_var
 refine snd_tup ?_
 refine snd_cons ?_ ?_
 exact snd_var
 refine snd_cons ?_ ?_
 exact snd_int
 refine snd_cons ?_ ?_
 exact snd_var
 exact snd_nil
 exact snd_done
 exact snd_done
 exact snd_done
 exact snd_done
 exact snd_done
 refine snd_then ?_ ?_
 refine snd_assign ?_
 refine snd_bin ?_ ?_
 exact snd_var
 exact snd_int
 exact snd_done
 refine snd_then ?_ ?_
 refine snd_ret ?_
 exact snd_var
 exact snd_done
theorem ok_law {G : Gd} {C : CS} {n : Nat} (HC : SndC G C n) : SndSs G C n (scOf (stAt 27)) body_law (bdOf (stAt 27)) := by
 show SndSs G C n (Scope.mk _ _ _ _ _) _ (_ :: _)
 unfold body_law
 refine snd_then ?_ ?_
 refine snd_assign ?_
 refine snd_call HC ?_
 refine snd_cons ?_ ?_
 exact snd_var
 exact snd_nil
 refine snd_then ?_ ?_
 refine snd_assign ?_
 refine snd_call HC ?_
 refine snd_cons ?_ ?_
 exact snd_var
 exact snd_nil
 refine snd_then ?_ ?_
 refine snd_if ?_ ?_ ?_
 refine sndT_cmp ?_ ?_
 refine snd_call HC ?_
 refine snd_cons ?_ ?_
 exact snd_var
 refine snd_cons ?_ ?_
 exact snd_int
 exact snd_nil
 exact snd_int
 refine snd_then ?_ ?_
 refine snd_assign ?_
 refine snd_bin ?_ ?_
 exact snd_var
 refine snd_list ?_
 refine snd_cons ?_ ?_
 refine snd_tup ?_
 refine snd_cons ?_ ?_
 exact snd_str
 refine snd_cons ?_ ?_
 refine snd_list ?_
 refine snd_cons ?_ ?_
 exact snd_str
 refine snd_cons ?_ ?_
 exact snd_str
 exact snd_nil
 exact snd_nil
 refine snd_cons ?_ ?_
 refine snd_tup ?_
 refine snd_cons ?_ ?_
 exact snd_str
 refine snd_cons ?_ ?_
 refine snd_list ?_
 exact snd_nil
 exact snd_nil
 exact snd_nil
 exact snd_done
 exact snd_done
 refine snd_then ?_ ?_
 refine snd_assign ?_
 refine snd_bin ?_ ?_
 refine snd_list ?_
 refine snd_cons ?_ ?_
 refine snd_tup ?_
 refine snd_cons ?_ ?_
 exact snd_str
 refine snd_cons ?_ ?_
 refine snd_list ?_
 refine snd_cons ?_ ?_
 exact snd_str
 refine snd_cons ?_ ?_
 exact snd_str
 exact snd_nil
 exact snd_nil
 exact snd_nil
 exact snd_var
 refine snd_then ?_ ?_
 refine snd_assign ?_
 refine snd_call HC ?_
 refine snd_cons ?_ ?_
 refine snd_comp ?_ (Tgt.many (.cons (.cons .nil))) ?_ ?_ (by rfl)
 refine sndIt_seq ?_
 exact snd_var
 exact SndIfs.nil
 refine snd_tup ?_
 refine snd_cons ?_ ?_
 exact snd_var
 refine snd_cons ?_ ?_
 refine snd_listOf ?_
 exact snd_var
 exact snd_nil
 exact snd_nil
 refine snd_then ?_ ?_
 refine snd_assign2 ?_ ?_ (h2 := by intro env h; rcases env; subst h; first | exact .inl rfl | exact .inr rfl)
 refine snd_call HC ?_
 refine snd_cons ?_ ?_
 exact snd_var
 exact snd_nil
 refine snd_attr ?_
 exact snd_var
 refine snd_then ?_ ?_
 refine snd_assign ?_
 refine snd_bin ?_ ?_
 refine snd_comp ?_ Tgt.one ?_ ?_ (by rfl)
 refine sndIt_seq ?_
 refine snd_list ?_
 refine snd_cons ?_ ?_
 exact snd_str
 refine snd_cons ?_ ?_
 exact snd_str
 refine snd_cons ?_ ?_
 exact snd_str
 refine snd_cons ?_ ?_
 exact snd_str
 exact snd_nil
 refine SndIfs.one ?_
 refine sndT_cmp ?_ ?_
 refine snd_meth HC ?_ ?_
 exact snd_var
 refine snd_cons ?_ ?_
 exact snd_var
 exact snd_nil
 exact snd_int
 exact snd_var
 refine snd_list ?_
 refine snd_cons ?_ ?_
 exact snd_str
 exact snd_nil
 refine snd_then ?_ ?_
 refine snd_assign ?_
 refine snd_dictOf ?_
 refine snd_bin ?_ ?_
 refine snd_comp ?_ Tgt.one ?_ ?_ (by rfl)
 refine sndIt_seq ?_
 refine snd_slTo ?_ ?_
 exact snd_var
 exact snd_negOne
 exact SndIfs.nil
 refine snd_tup ?_
 refine snd_cons ?_ ?_
 exact snd_var
 refine snd_cons ?_ ?_
 refine snd_meth HC ?_ ?_
 exact snd_var
 refine snd_cons ?_ ?_
 exact snd_var
 exact snd_nil
 exact snd_nil
 refine snd_list ?_
 refine snd_cons ?_ ?_
 refine snd_tup ?_
 refine snd_cons ?_ ?_
 exact snd_str
 refine snd_cons ?_ ?_
 exact snd_var
 exact snd_nil
 exact snd_nil
 refine snd_then ?_ ?_
 refine snd_for ?_ Tgt.one (by rfl) ?_
 refine sndIt_range ?_
 exact snd_int
 refine snd_then ?_ ?_
 refine snd_assign2 ?_ ?_ (h2 := by intro env h; rcases env; subst h; first | exact .inl rfl | exact .inr rfl)
 exact snd_dict0
 refine snd_list ?_
 exact snd_nil
 refine snd_then ?_ ?_
 refine snd_for ?_ Tgt.one (by rfl) ?_
 refine sndIt_range ?_
 refine snd_bin ?_ ?_
 exact snd_int
 refine snd_call HC ?_
 refine snd_cons ?_ ?_
 exact snd_var
 refine snd_cons ?_ ?_
 exact snd_int
 exact snd_nil
 refine snd_then ?_ ?_
 refine snd_assign ?_
 refine snd_call HC ?_
 refine snd_cons ?_ ?_
 exact snd_var
 refine snd_cons ?_ ?_
 refine snd_len ?_
 exact snd_var
 exact snd_nil
 refine snd_then ?_ ?_
 refine snd_assign ?_
 refine snd_call HC ?_
 refine snd_cons ?_ ?_
 exact snd_var
 refine snd_cons ?_ ?_
 refine snd_bin ?_ ?_
 refine snd_len ?_
 refine snd_sub ?_ ?_
 refine snd_sub ?_ ?_
 exact snd_var
 exact snd_var
 exact snd_int
 exact snd_int
 exact snd_nil
 refine snd_then ?_ ?_
 refine snd_assign_comp ?_ Tgt.one ?_ ?_ (by rfl) (by intro env h; rcases env; subst h; rfl)
 refine sndIt_seq ?_
 exact snd_var
 refine SndIfs.one ?_
 refine sndT_cmp ?_ ?_
 refine snd_call HC ?_
 refine snd_cons ?_ ?_
 exact snd_var
 refine snd_cons ?_ ?_
 exact snd_int
 exact snd_nil
 exact snd_int
 exact snd_var
 refine snd_then ?_ ?_
 refine snd_setSub ?_ ?_ ?_
 exact snd_var
 refine snd_meth HC ?_ ?_
 exact snd_var
 refine snd_cons ?_ ?_
 exact snd_var
 refine snd_cons ?_ ?_
 exact snd_var
 exact snd_nil
 refine snd_sumOf ?_
 refine snd_comp ?_ Tgt.one ?_ ?_ (by rfl)
 refine sndIt_seq ?_
 exact snd_var
 exact SndIfs.nil
 refine snd_bin ?_ ?_
 exact snd_int
 refine snd_sub ?_ ?_
 exact snd_var
 exact snd_var
 refine snd_then ?_ ?_
 refine snd_assign ?_
 refine snd_bin ?_ ?_
 refine snd_comp ?_ Tgt.one ?_ ?_ (by rfl)
 refine sndIt_seq ?_
 exact snd_var
 refine SndIfs.one ?_
 refine sndT_cmp ?_ ?_
 refine snd_slTo ?_ ?_
 exact snd_var
 exact snd_int
 refine snd_tup ?_
 refine snd_cons ?_ ?_
 exact snd_var
 refine snd_cons ?_ ?_
 exact snd_var
 exact snd_nil
 exact snd_var
 refine snd_comp ?_ Tgt.one ?_ ?_ (by rfl)
 refine sndIt_seq ?_
 refine snd_bin ?_ ?_
 exact snd_var
 refine snd_list ?_
 refine snd_cons ?_ ?_
 exact snd_str
 exact snd_nil
 exact SndIfs.nil
 refine snd_tup ?_
 refine snd_cons ?_ ?_
 exact snd_var
 refine snd_cons ?_ ?_
 exact snd_var
 refine snd_cons ?_ ?_
 exact snd_var
 exact snd_nil
 exact snd_done
 refine snd_then ?_ ?_
 refine snd_assign ?_
 exact snd_dict0
 refine snd_then ?_ ?_
 refine snd_for ?_ (Tgt.many (.cons (.cons (.cons .nil)))) (by rfl) ?_
 refine sndIt_seq ?_
 refine snd_call HC ?_
 refine snd_cons ?_ ?_
 exact snd_var
 refine snd_cons ?_ ?_
 exact snd_var
 refine snd_cons ?_ ?_
 exact snd_var
 exact snd_nil
 refine snd_then ?_ ?_
 refine snd_assign ?_
 refine snd_meth HC ?_ ?_
 exact snd_var
 refine snd_cons ?_ ?_
 exact snd_var
 refine snd_cons ?_ ?_
 exact snd_var
 exact snd_nil
 refine snd_then ?_ ?_
 refine snd_setSub ?_ ?_ ?_
 exact snd_var
 exact snd_var
 refine snd_bin ?_ ?_
 refine snd_get ?_ ?_ ?_
 exact snd_var
 exact snd_var
 exact snd_int
 refine snd_ite ?_ ?_ ?_
 refine sndT_cmp ?_ ?_
 exact snd_var
 exact snd_str
 refine snd_bin ?_ ?_
 exact snd_int
 refine snd_sub ?_ ?_
 exact snd_var
 exact snd_var
 exact snd_int
 exact snd_done
 refine snd_then ?_ ?_
 refine snd_assign ?_
 refine snd_dictOf ?_
 exact snd_var
 refine snd_then ?_ ?_
 refine snd_if ?_ ?_ ?_
 refine sndT_or ?_ ?_
 refine sndT_cmp ?_ ?_
 refine snd_call HC ?_
 refine snd_cons ?_ ?_
 exact snd_var
 refine snd_cons ?_ ?_
 exact snd_var
 refine snd_cons ?_ ?_
 refine snd_call HC ?_
 refine snd_cons ?_ ?_
 exact snd_var
 exact snd_nil
 refine snd_cons ?_ ?_
 refine snd_call HC ?_
 refine snd_cons ?_ ?_
 exact snd_var
 exact snd_nil
 exact snd_nil
 exact snd_var
 refine sndT_cmp ?_ ?_
 exact snd_var
 exact snd_var
 refine snd_then ?_ ?_
 refine snd_ret ?_
 exact snd_bool
 exact snd_done
 exact snd_done
 exact snd_done
 refine snd_then ?_ ?_
 refine snd_ret ?_
 exact snd_bool
 exact snd_done
end Mine
end
section
namespace Mine
open PySem PySem.W PyProof.Rows
abbrev vs (x : String) (t : Nat) : Value := .str (Str.ofString x) t
abbrev de (P : Params) (x : String) (t : Nat) (v : Value) : DictEntry := ⟨PyData.keyHash P (Str.ofString x), .str (Str.ofString x) t, v⟩
abbrev co (x : String) (t : Nat) (y : String) (u a b : Nat) (l : List Value) : Obj := { cls := .type "code", data := .fields ([vs x t, vs y u, vs "/claim/cut.py" a] ++ l ++ [vs "/claim/cut.py" b]).toArray }
noncomputable def nmOf : Stmt → Str
 | .FunctionDef n _ _ _ _ _ _ _ _ _ => n
 | _ => default
noncomputable def paOf : Stmt → Arguments
 | .FunctionDef _ p _ _ _ _ _ _ _ _ => p
 | _ => default
noncomputable abbrev fo (s : Stmt) (q : String) (dv pm cd : Value) : Obj := { cls := .type "function", data := .func { name := nmOf s, qualname := Str.ofString q, params := paOf s, body := .stmts (bdOf s), scope := scOf s, globals := 3, closure := [], defaults := dv, kwdefaults := .none, pyModule := pm, code := cd } }
noncomputable def KF (P : Params) : Frag := [
 (3, { cls := (.type "dict"), data := .dict #[de P "__name__" 165 (vs "law_pq0571_01" 491), de P "__doc__" 166 .none, de P "__package__" 167 .none, de P "__loader__" 168 (.builtin "__main__.__loader__#opaque"), de P "__spec__" 169 .none, de P "__annotations__" 170 (.ref 6), de P "__builtins__" 171 (.ref 4), de P "__file__" 173 (vs "/claim/cut.py" 172), de P "__cached__" 174 .none, de P "_wall" 193 (.ref 21), de P "spread" 201 (.ref 26), de P "nullable" 208 (.ref 33), de P "first_of" 219 (.ref 40), de P "first_masks" 232 (.ref 47), de P "spread_items" 255 (.ref 54), de P "ToolError" 295 (.ref 79), de P "GrammarError" 311 (.ref 92), de P "END" 315 (.int 0 314), de P "OWN_TERMINALS" 319 (.ref 95), de P "Rule" 364 (.ref 113), de P "Grammar" 474 (.ref 195), de P "last_terminal" 484 (.ref 206), de P "plain_grammar" 490 (.ref 212), de P "_law_pen" 498 (.ref 217), de P "_law_draw" 507 (.ref 224), de P "_law_pick" 515 (.ref 231), de P "_law_pairs" 521 (.ref 236), de P "_law_empty" 527 (.ref 241), de P "_law_ahead" 537 (.ref 248), de P "_law_begins" 543 (.ref 253), de P "_law_pairs_of" 549 (.ref 258), de P "law" 555 (.ref 263)] 32 }),
 (25, co "spread" 196 "spread" 197 198 200 [(.int 5 0), (.int 2 0), (.int 0 0), (.int 0 0), (.int 3 0), (.ref 22), (.bool true), (.int 181 0), (.ref 23), .none, .none, .none, (.ref 24), (.int 199 0), (.int 5 0)]),
 (26, fo (stAt 2) "spread" .none (vs "grammarmill.analysis" 194) (.ref 25)),
 (32, co "nullable" 202 "nullable" 203 204 207 [(.int 31 0), (.int 1 0), (.int 0 0), (.int 0 0), (.int 3 0), (.ref 27), (.bool true), (.int 181 0), (.ref 28), .none, (.ref 29), (.ref 30), (.ref 31), (.int 206 0), (.int 31 0)]),
 (33, fo (stAt 3) "nullable" .none (vs "grammarmill.analysis" 194) (.ref 32)),
 (39, co "first_of" 209 "first_of" 210 211 218 [(.int 33 0), (.int 3 0), (.int 0 0), (.int 0 0), (.int 3 0), (.ref 34), (.bool true), (.int 181 0), (.ref 35), .none, (.ref 36), (.ref 37), (.ref 38), (.int 217 0), (.int 33 0)]),
 (40, fo (stAt 4) "first_of" .none (vs "grammarmill.analysis" 194) (.ref 39)),
 (46, co "first_masks" 220 "first_masks" 221 222 231 [(.int 40 0), (.int 1 0), (.int 0 0), (.int 0 0), (.int 3 0), (.ref 41), (.bool true), (.int 181 0), (.ref 42), .none, (.ref 43), (.ref 44), (.ref 45), (.int 230 0), (.int 40 0)]),
 (47, fo (stAt 5) "first_masks" .none (vs "grammarmill.analysis" 194) (.ref 46)),
 (53, co "spread_items" 235 "spread_items" 236 237 254 [(.int 55 0), (.int 4 0), (.int 0 0), (.int 0 0), (.int 3 0), (.ref 48), (.bool true), (.int 181 0), (.ref 49), .none, (.ref 50), (.ref 51), (.ref 52), (.int 253 0), (.int 55 0)]),
 (54, fo (stAt 7) "spread_items" .none (vs "grammarmill.lookahead" 233) (.ref 53)),
 (95, { cls := (.type "tuple"), data := .seq #[(vs "$end" 316), (vs "error" 317), (vs "$undefined" 318)] 0 }),
 (103, { cls := (.type "tuple"), data := .seq #[(.int (-1) 333), .none, (.int 0 334), (.int 0 335)] 0 }),
 (109, co "__init__" 336 "Rule.__init__" 337 338 348 [(.int 95 0), (.int 8 0), (.int 0 0), (.int 0 0), (.int 3 0), (.ref 104), (.bool true), (.int 181 0), (.ref 105), .none, (.ref 106), (.ref 107), (.ref 108), (.int 347 0), (.int 95 0)]),
 (110, fo (mAt 14 0) "Rule.__init__" (.ref 103) (vs "grammarmill.grammar" 312) (.ref 109)),
 (112, { cls := (.type "dict"), data := .dict #[de P "__module__" 327 (vs "grammarmill.grammar" 312), de P "__firstlineno__" 331 (.int 93 330), de P "__init__" 349 (.ref 110), de P "__static_attributes__" 357 (.ref 111), de P "__dict__" 359 (.ref 114), de P "__weakref__" 361 (.ref 115), de P "__doc__" 362 .none] 4 }),
 (113, { cls := (.type "type"), data := .cls { name := "Rule", bases := [(.type "object")], mro := [(.ref 113), (.type "object")], ns := 112, qualname := "Rule" }, slots := #[none, none, some (vs "Rule" 320), some (vs "Rule" 328), some (.builtin "object.__new__"), some (.bool true)] }),
 (128, co "__init__" 377 "Grammar.__init__" 378 379 381 [(.int 105 0), (.int 7 0), (.int 0 0), (.int 0 0), (.int 3 0), (.ref 125), (.bool true), (.int 181 0), (.ref 126), .none, .none, .none, (.ref 127), (.int 380 0), (.int 105 0)]),
 (129, fo (mAt 15 0) "Grammar.__init__" .none (vs "grammarmill.grammar" 312) (.ref 128)),
 (135, co "symbol_count" 383 "Grammar.symbol_count" 384 385 388 [(.int 121 0), (.int 1 0), (.int 0 0), (.int 0 0), (.int 3 0), (.ref 130), (.bool true), (.int 181 0), (.ref 131), .none, (.ref 132), (.ref 133), (.ref 134), (.int 387 0), (.int 121 0)]),
 (136, fo (mAt 15 1) "Grammar.symbol_count" .none (vs "grammarmill.grammar" 312) (.ref 135)),
 (142, co "is_terminal" 390 "Grammar.is_terminal" 391 392 396 [(.int 124 0), (.int 2 0), (.int 0 0), (.int 0 0), (.int 3 0), (.ref 137), (.bool true), (.int 181 0), (.ref 138), .none, (.ref 139), (.ref 140), (.ref 141), (.int 395 0), (.int 124 0)]),
 (143, fo (mAt 15 2) "Grammar.is_terminal" .none (vs "grammarmill.grammar" 312) (.ref 142)),
 (156, co "number" 406 "Grammar.number" 407 408 412 [(.int 130 0), (.int 2 0), (.int 0 0), (.int 0 0), (.int 3 0), (.ref 151), (.bool true), (.int 181 0), (.ref 152), .none, (.ref 153), (.ref 154), (.ref 155), (.int 411 0), (.int 130 0)]),
 (157, fo (mAt 15 4) "Grammar.number" .none (vs "grammarmill.grammar" 312) (.ref 156)),
 (163, co "rules_of" 414 "Grammar.rules_of" 415 416 420 [(.int 133 0), (.int 2 0), (.int 0 0), (.int 0 0), (.int 3 0), (.ref 158), (.bool true), (.int 181 0), (.ref 159), .none, (.ref 160), (.ref 161), (.ref 162), (.int 419 0), (.int 133 0)]),
 (164, fo (mAt 15 5) "Grammar.rules_of" .none (vs "grammarmill.grammar" 312) (.ref 163)),
 (170, co "item" 422 "Grammar.item" 423 424 429 [(.int 136 0), (.int 3 0), (.int 0 0), (.int 0 0), (.int 3 0), (.ref 165), (.bool true), (.int 181 0), (.ref 166), .none, (.ref 167), (.ref 168), (.ref 169), (.int 428 0), (.int 136 0)]),
 (171, fo (mAt 15 6) "Grammar.item" .none (vs "grammarmill.grammar" 312) (.ref 170)),
 (177, co "rule_of" 431 "Grammar.rule_of" 432 433 437 [(.int 139 0), (.int 2 0), (.int 0 0), (.int 0 0), (.int 3 0), (.ref 172), (.bool true), (.int 181 0), (.ref 173), .none, (.ref 174), (.ref 175), (.ref 176), (.int 436 0), (.int 139 0)]),
 (178, fo (mAt 15 7) "Grammar.rule_of" .none (vs "grammarmill.grammar" 312) (.ref 177)),
 (184, co "dot_of" 439 "Grammar.dot_of" 440 441 445 [(.int 142 0), (.int 2 0), (.int 0 0), (.int 0 0), (.int 3 0), (.ref 179), (.bool true), (.int 181 0), (.ref 180), .none, (.ref 181), (.ref 182), (.ref 183), (.int 444 0), (.int 142 0)]),
 (185, fo (mAt 15 8) "Grammar.dot_of" .none (vs "grammarmill.grammar" 312) (.ref 184)),
 (191, co "after" 447 "Grammar.after" 448 449 455 [(.int 145 0), (.int 2 0), (.int 0 0), (.int 0 0), (.int 3 0), (.ref 186), (.bool true), (.int 181 0), (.ref 187), .none, (.ref 188), (.ref 189), (.ref 190), (.int 454 0), (.int 145 0)]),
 (192, fo (mAt 15 9) "Grammar.after" .none (vs "grammarmill.grammar" 312) (.ref 191)),
 (194, { cls := (.type "dict"), data := .dict #[de P "__module__" 372 (vs "grammarmill.grammar" 312), de P "__firstlineno__" 376 (.int 103 375), de P "__init__" 382 (.ref 129), de P "symbol_count" 389 (.ref 136), de P "is_terminal" 397 (.ref 143), de P "is_middle" 405 (.ref 150), de P "number" 413 (.ref 157), de P "rules_of" 421 (.ref 164), de P "item" 430 (.ref 171), de P "rule_of" 438 (.ref 178), de P "dot_of" 446 (.ref 185), de P "after" 456 (.ref 192), de P "__static_attributes__" 467 (.ref 193), de P "__dict__" 469 (.ref 196), de P "__weakref__" 471 (.ref 197), de P "__doc__" 472 .none] 4 }),
 (195, { cls := (.type "type"), data := .cls { name := "Grammar", bases := [(.type "object")], mro := [(.ref 195), (.type "object")], ns := 194, qualname := "Grammar" }, slots := #[none, none, some (vs "Grammar" 365), some (vs "Grammar" 373), some (.builtin "object.__new__"), some (.bool true)] }),
 (205, co "last_terminal" 475 "last_terminal" 476 477 483 [(.int 149 0), (.int 2 0), (.int 0 0), (.int 0 0), (.int 3 0), (.ref 200), (.bool true), (.int 181 0), (.ref 201), .none, (.ref 202), (.ref 203), (.ref 204), (.int 482 0), (.int 149 0)]),
 (206, fo (stAt 16) "last_terminal" .none (vs "grammarmill.grammar" 312) (.ref 205)),
 (207, { cls := (.type "tuple"), data := .seq #[.none] 0 }),
 (211, co "plain_grammar" 485 "plain_grammar" 486 487 489 [(.int 155 0), (.int 2 0), (.int 0 0), (.int 0 0), (.int 3 0), (.ref 208), (.bool true), (.int 181 0), (.ref 209), .none, .none, .none, (.ref 210), (.int 488 0), (.int 155 0)]),
 (212, fo (stAt 17) "plain_grammar" (.ref 207) (vs "grammarmill.grammar" 312) (.ref 211)),
 (216, co "_law_pen" 493 "_law_pen" 494 495 497 [(.int 178 0), (.int 1 0), (.int 0 0), (.int 0 0), (.int 3 0), (.ref 213), (.bool true), (.int 181 0), (.ref 214), .none, .none, .none, (.ref 215), (.int 496 0), (.int 178 0)]),
 (217, fo (stAt 19) "_law_pen" .none (vs "law_pq0571_01" 491) (.ref 216)),
 (223, co "_law_draw" 499 "_law_draw" 500 501 506 [(.int 180 0), (.int 2 0), (.int 0 0), (.int 0 0), (.int 3 0), (.ref 218), (.bool true), (.int 181 0), (.ref 219), .none, (.ref 220), (.ref 221), (.ref 222), (.int 505 0), (.int 180 0)]),
 (224, fo (stAt 20) "_law_draw" .none (vs "law_pq0571_01" 491) (.ref 223)),
 (230, co "_law_pick" 508 "_law_pick" 509 510 514 [(.int 187 0), (.int 2 0), (.int 0 0), (.int 0 0), (.int 3 0), (.ref 225), (.bool true), (.int 181 0), (.ref 226), .none, (.ref 227), (.ref 228), (.ref 229), (.int 513 0), (.int 187 0)]),
 (231, fo (stAt 21) "_law_pick" .none (vs "law_pq0571_01" 491) (.ref 230)),
 (235, co "_law_pairs" 516 "_law_pairs" 517 518 520 [(.int 189 0), (.int 1 0), (.int 0 0), (.int 0 0), (.int 3 0), (.ref 232), (.bool true), (.int 181 0), (.ref 233), .none, .none, .none, (.ref 234), (.int 519 0), (.int 189 0)]),
 (236, fo (stAt 22) "_law_pairs" .none (vs "law_pq0571_01" 491) (.ref 235)),
 (240, co "_law_empty" 522 "_law_empty" 523 524 526 [(.int 198 0), (.int 1 0), (.int 0 0), (.int 0 0), (.int 3 0), (.ref 237), (.bool true), (.int 181 0), (.ref 238), .none, .none, .none, (.ref 239), (.int 525 0), (.int 198 0)]),
 (241, fo (stAt 23) "_law_empty" .none (vs "law_pq0571_01" 491) (.ref 240)),
 (247, co "_law_ahead" 528 "_law_ahead" 529 530 536 [(.int 204 0), (.int 2 0), (.int 0 0), (.int 0 0), (.int 3 0), (.ref 242), (.bool true), (.int 181 0), (.ref 243), .none, (.ref 244), (.ref 245), (.ref 246), (.int 535 0), (.int 204 0)]),
 (248, fo (stAt 24) "_law_ahead" .none (vs "law_pq0571_01" 491) (.ref 247)),
 (252, co "_law_begins" 538 "_law_begins" 539 540 542 [(.int 211 0), (.int 3 0), (.int 0 0), (.int 0 0), (.int 3 0), (.ref 249), (.bool true), (.int 181 0), (.ref 250), .none, .none, .none, (.ref 251), (.int 541 0), (.int 211 0)]),
 (253, fo (stAt 25) "_law_begins" .none (vs "law_pq0571_01" 491) (.ref 252)),
 (257, co "_law_pairs_of" 544 "_law_pairs_of" 545 546 548 [(.int 220 0), (.int 3 0), (.int 0 0), (.int 0 0), (.int 3 0), (.ref 254), (.bool true), (.int 181 0), (.ref 255), .none, .none, .none, (.ref 256), (.int 547 0), (.int 220 0)]),
 (258, fo (stAt 26) "_law_pairs_of" .none (vs "law_pq0571_01" 491) (.ref 257)),
 (262, co "law" 550 "law" 551 552 554 [(.int 233 0), (.int 1 0), (.int 0 0), (.int 0 0), (.int 3 0), (.ref 259), (.bool true), (.int 181 0), (.ref 260), .none, .none, .none, (.ref 261), (.int 553 0), (.int 233 0)]),
 (263, fo (stAt 27) "law" .none (vs "law_pq0571_01" 491) (.ref 262))]
noncomputable def viewP : Program := { PySem.Challenge.rw_pq0571_01.row.toRowW.prog with main := { PySem.Challenge.rw_pq0571_01.row.toRowW.prog.main with body := [stAt 0, stAt 2, stAt 3, stAt 4, stAt 5, stAt 7, stAt 9, stAt 10, stAt 12, stAt 13, stAt 14, stAt 15, stAt 16, stAt 19, stAt 20, stAt 21, stAt 22, stAt 23, stAt 24, stAt 25, stAt 26, stAt 27] } }
abbrev looseP : List Str := [Str.ofString "ToolError", Str.ofString "plain_grammar"]
noncomputable abbrev hookP : Hook := kHook KF [3, 25, 26, 32, 33, 39, 40, 46, 47, 53, 54, 95, 103, 109, 110, 112, 113, 128, 129, 135, 136, 142, 143, 156, 157, 163, 164, 170, 171, 177, 178, 184, 185, 191, 192, 194, 195, 205, 206, 207, 211, 212, 216, 217, 223, 224, 230, 231, 235, 236, 240, 241, 247, 248, 252, 253, 257, 258, 262, 263] (fun _ => rfl)
theorem said0 : PySem.Challenge.rw_pq0571_01.wellSaid = true := by kernel_rfl
theorem left0 : LeftO PySem.Challenge.rw_pq0571_01.row.prog viewP looseP (fun s => xlAt viewP [] s && recOk (RowW.records PySem.Challenge.rw_pq0571_01.row.toRowW) s) (Hook.obs hookP) (Hook.val hookP) 3736 := fun w => by kernel_rfl
end Mine
end
section
namespace Mine
open PySem PySem.W PyProof.Rows PySem.Calls
noncomputable def clsAt : Cl → Addr
 | .rule => 113 | .grammar => 195
noncomputable def fnAddr : Fn → Addr
 | .spread => 26 | .nullable => 33 | .first_of => 40 | .first_masks => 47 | .spread_items => 54 | .ruleInit => 110 | .grammarInit => 129
 | .symbol_count => 136 | .is_terminal => 143 | .gnumber => 157 | .rules_of => 164 | .gitem => 171 | .rule_of => 178 | .dot_of => 185 | .after => 192
 | .last_terminal => 206 | .plain_grammar => 212 | .law_pen => 217 | .law_draw => 224 | .law_pick => 231 | .law_pairs => 236 | .law_empty => 241 | .law_ahead => 248
 | .law_begins => 253 | .law_pairs_of => 258
noncomputable abbrev KK (w : World) : Frag := KF w.params
noncomputable abbrev looseN : List Str := looseW viewP looseP
theorem bi_mem {x : Str} (h : biName x = true) : x ∈ (["len", "list", "tuple", "int", "abs", "sum", "dict", "sorted", "set", "range", "max", "enumerate"] : List Str) := by
 unfold biName at h; simpa using h
section
variable {w : World} {h₀ : Heap} {mg mb : Str → Option Value}
theorem g_noGlob (X : (KK w).In h₀) (T : TopRead viewP looseN mg mb h₀) : ∀ x, biName x = true → mg x = none := fun x hx => by
 have := bi_mem hx
 simp only [List.mem_cons, List.not_mem_nil, or_false] at this
 rcases this with rfl | rfl | rfl | rfl | rfl | rfl | rfl | rfl | rfl | rfl | rfl | rfl <;> exact mg_none_of X T.g rfl
theorem g_fld : ∀ c f, fieldOf c f = true → findIn (KK w) (.ref (clsAt c)) f.txt = some none := fun c f h => by
 cases c <;> cases f <;> first | rfl | (exact absurd h (by decide))
theorem g_fnGlob (X : (KK w).In h₀) (T : TopRead viewP looseN mg mb h₀) : ∀ f : Fn, f.isPlain = true → mg f.txt = some (.ref (fnAddr f)) := fun f h => by
 cases f <;> first | exact mg_of X T.g rfl | (exact absurd h (by decide))
theorem g_fnMeth : ∀ f : Fn, f.isMeth = true → findIn (KK w) (.ref (clsAt .grammar)) f.txt = some (some (.ref (fnAddr f))) := fun f h => by
 cases f <;> first | rfl | (exact absurd h (by decide))
noncomputable def mkG (w : World) (h₀ : Heap) (os₀ : OsState) (mg mb : Str → Option Value) (X : (KK w).In h₀) (T : TopRead viewP looseN mg mb h₀) : Gd where
 prog := PySem.Challenge.rw_pq0571_01.row.prog
 w := w
 h₀ := h₀
 os₀ := os₀
 K := KK w
 p := viewP
 loose := looseN
 mg := mg
 mb := mb
 cls := clsAt
 X := X
 T := T
 sysm := Nat.lt_trans (show sysModules < 195 by decide) (Heap.lt_size (X 195 _ rfl))
 noGlob := g_noGlob X T
 fld := g_fld
 clsGet := fun c x => by cases c <;> rfl
 clsDict := fun c => by cases c <;> rfl
 clsOver := fun c => by cases c <;> rfl
 fa := fnAddr
 fnGlob := g_fnGlob X T
 fnMeth := g_fnMeth
 fnIs := fun f => by cases f <;> rfl
 fnKeep := fun f => by cases f <;> rfl
 gEnd := ⟨_, mg_of X T.g rfl⟩
 gOwn := ⟨95, [_, _, _], _, mg_of X T.g rfl, X 95 _ rfl, .cons ⟨_, rfl⟩ (.cons ⟨_, rfl⟩ (.cons ⟨_, rfl⟩ .nil))⟩
 clsGlob := fun c => by cases c <;> exact mg_of X T.g rfl
 clsKeep := fun c => by cases c <;> rfl
 clsMakes := fun c => by cases c <;> rfl
 clsInit := fun c => by cases c <;> rfl
 clsSet := fun c => by cases c <;> rfl
end
end Mine
end
section
namespace Mine
open PySem PySem.W PyProof.Rows PySem.Calls
noncomputable def fnSt : Fn → Stmt
 | .spread => stAt 2 | .nullable => stAt 3 | .first_of => stAt 4 | .first_masks => stAt 5 | .spread_items => stAt 7 | .ruleInit => mAt 14 0 | .grammarInit => mAt 15 0
 | .symbol_count => mAt 15 1 | .is_terminal => mAt 15 2 | .gnumber => mAt 15 4 | .rules_of => mAt 15 5 | .gitem => mAt 15 6 | .rule_of => mAt 15 7 | .dot_of => mAt 15 8 | .after => mAt 15 9
 | .last_terminal => stAt 16 | .plain_grammar => stAt 17 | .law_pen => stAt 19 | .law_draw => stAt 20 | .law_pick => stAt 21 | .law_pairs => stAt 22 | .law_empty => stAt 23 | .law_ahead => stAt 24
 | .law_begins => stAt 25 | .law_pairs_of => stAt 26
theorem len_s {α : Type} {n : Nat} {xs : List α} (h : xs.length = n + 1) : ∃ a ys, xs = a :: ys ∧ ys.length = n := by
 cases xs with
 | nil => cases h
 | cons a ys => exact ⟨a, ys, rfl, Nat.succ.inj h⟩
theorem len1 {α : Type} {xs : List α} (h : xs.length = 1) : ∃ a, xs = [a] := by
 obtain ⟨a, ys, rfl, h2⟩ := len_s h
 cases List.length_eq_zero_iff.mp h2
 exact ⟨a, rfl⟩
theorem len2 {α : Type} {xs : List α} (h : xs.length = 2) : ∃ a b, xs = [a, b] := by
 obtain ⟨a, ys, rfl, h2⟩ := len_s h
 obtain ⟨b, rfl⟩ := len1 h2
 exact ⟨a, b, rfl⟩
theorem len3 {α : Type} {xs : List α} (h : xs.length = 3) : ∃ a b c, xs = [a, b, c] := by
 obtain ⟨a, ys, rfl, h2⟩ := len_s h
 obtain ⟨b, c, rfl⟩ := len2 h2
 exact ⟨a, b, c, rfl⟩
theorem len4 {α : Type} {xs : List α} (h : xs.length = 4) : ∃ a b c d, xs = [a, b, c, d] := by
 obtain ⟨a, ys, rfl, h2⟩ := len_s h
 obtain ⟨b, c, d, rfl⟩ := len3 h2
 exact ⟨a, b, c, d, rfl⟩
theorem len5 {α : Type} {xs : List α} (h : xs.length = 5) : ∃ a b c d e, xs = [a, b, c, d, e] := by
 obtain ⟨a, ys, rfl, h2⟩ := len_s h
 obtain ⟨b, c, d, e, rfl⟩ := len4 h2
 exact ⟨a, b, c, d, e, rfl⟩
theorem len6 {α : Type} {xs : List α} (h : xs.length = 6) : ∃ a b c d e f, xs = [a, b, c, d, e, f] := by
 obtain ⟨a, ys, rfl, h2⟩ := len_s h
 obtain ⟨b, c, d, e, f, rfl⟩ := len5 h2
 exact ⟨a, b, c, d, e, f, rfl⟩
theorem len7 {α : Type} {xs : List α} (h : xs.length = 7) : ∃ a b c d e f g, xs = [a, b, c, d, e, f, g] := by
 obtain ⟨a, ys, rfl, h2⟩ := len_s h
 obtain ⟨b, c, d, e, f, g, rfl⟩ := len6 h2
 exact ⟨a, b, c, d, e, f, g, rfl⟩
section
variable {w : World} {h₀ : Heap} {os₀ : OsState} {mg mb : Str → Option Value} (X : (KK w).In h₀) (T : TopRead viewP looseN mg mb h₀)
theorem at_spread : FnAt (mkG w h₀ os₀ mg mb X T) .spread (scOf (fnSt .spread)) (bdOf (fnSt .spread)) :=
 ⟨_, _, _, _, _, _, _, _, _, _, _, _, _, [], rfl, rfl, .nil, fun s xs hk hlen => by
  obtain ⟨a1, a2, rfl⟩ := len2 hlen
  exact BindsTo.of_eq rfl⟩
theorem at_nullable : FnAt (mkG w h₀ os₀ mg mb X T) .nullable (scOf (fnSt .nullable)) (bdOf (fnSt .nullable)) :=
 ⟨_, _, _, _, _, _, _, _, _, _, _, _, _, [], rfl, rfl, .nil, fun s xs hk hlen => by
  obtain ⟨a1, rfl⟩ := len1 hlen
  exact BindsTo.of_eq rfl⟩
theorem at_first_of : FnAt (mkG w h₀ os₀ mg mb X T) .first_of (scOf (fnSt .first_of)) (bdOf (fnSt .first_of)) :=
 ⟨_, _, _, _, _, _, _, _, _, _, _, _, _, [], rfl, rfl, .nil, fun s xs hk hlen => by
  obtain ⟨a1, a2, a3, rfl⟩ := len3 hlen
  exact BindsTo.of_eq rfl⟩
theorem at_first_masks : FnAt (mkG w h₀ os₀ mg mb X T) .first_masks (scOf (fnSt .first_masks)) (bdOf (fnSt .first_masks)) :=
 ⟨_, _, _, _, _, _, _, _, _, _, _, _, _, [], rfl, rfl, .nil, fun s xs hk hlen => by
  obtain ⟨a1, rfl⟩ := len1 hlen
  exact BindsTo.of_eq rfl⟩
theorem at_spread_items : FnAt (mkG w h₀ os₀ mg mb X T) .spread_items (scOf (fnSt .spread_items)) (bdOf (fnSt .spread_items)) :=
 ⟨_, _, _, _, _, _, _, _, _, _, _, _, _, [], rfl, rfl, .nil, fun s xs hk hlen => by
  obtain ⟨a1, a2, a3, a4, rfl⟩ := len4 hlen
  exact BindsTo.of_eq rfl⟩
theorem at_grammarInit : FnAt (mkG w h₀ os₀ mg mb X T) .grammarInit (scOf (fnSt .grammarInit)) (bdOf (fnSt .grammarInit)) :=
 ⟨_, _, _, _, _, _, _, _, _, _, _, _, _, [], rfl, rfl, .nil, fun s xs hk hlen => by
  obtain ⟨a1, a2, a3, a4, a5, a6, a7, rfl⟩ := len7 hlen
  exact BindsTo.of_eq rfl⟩
theorem at_symbol_count : FnAt (mkG w h₀ os₀ mg mb X T) .symbol_count (scOf (fnSt .symbol_count)) (bdOf (fnSt .symbol_count)) :=
 ⟨_, _, _, _, _, _, _, _, _, _, _, _, _, [], rfl, rfl, .nil, fun s xs hk hlen => by
  obtain ⟨a1, rfl⟩ := len1 hlen
  exact BindsTo.of_eq rfl⟩
theorem at_is_terminal : FnAt (mkG w h₀ os₀ mg mb X T) .is_terminal (scOf (fnSt .is_terminal)) (bdOf (fnSt .is_terminal)) :=
 ⟨_, _, _, _, _, _, _, _, _, _, _, _, _, [], rfl, rfl, .nil, fun s xs hk hlen => by
  obtain ⟨a1, a2, rfl⟩ := len2 hlen
  exact BindsTo.of_eq rfl⟩
theorem at_gnumber : FnAt (mkG w h₀ os₀ mg mb X T) .gnumber (scOf (fnSt .gnumber)) (bdOf (fnSt .gnumber)) :=
 ⟨_, _, _, _, _, _, _, _, _, _, _, _, _, [], rfl, rfl, .nil, fun s xs hk hlen => by
  obtain ⟨a1, a2, rfl⟩ := len2 hlen
  exact BindsTo.of_eq rfl⟩
theorem at_rules_of : FnAt (mkG w h₀ os₀ mg mb X T) .rules_of (scOf (fnSt .rules_of)) (bdOf (fnSt .rules_of)) :=
 ⟨_, _, _, _, _, _, _, _, _, _, _, _, _, [], rfl, rfl, .nil, fun s xs hk hlen => by
  obtain ⟨a1, a2, rfl⟩ := len2 hlen
  exact BindsTo.of_eq rfl⟩
theorem at_gitem : FnAt (mkG w h₀ os₀ mg mb X T) .gitem (scOf (fnSt .gitem)) (bdOf (fnSt .gitem)) :=
 ⟨_, _, _, _, _, _, _, _, _, _, _, _, _, [], rfl, rfl, .nil, fun s xs hk hlen => by
  obtain ⟨a1, a2, a3, rfl⟩ := len3 hlen
  exact BindsTo.of_eq rfl⟩
theorem at_rule_of : FnAt (mkG w h₀ os₀ mg mb X T) .rule_of (scOf (fnSt .rule_of)) (bdOf (fnSt .rule_of)) :=
 ⟨_, _, _, _, _, _, _, _, _, _, _, _, _, [], rfl, rfl, .nil, fun s xs hk hlen => by
  obtain ⟨a1, a2, rfl⟩ := len2 hlen
  exact BindsTo.of_eq rfl⟩
theorem at_dot_of : FnAt (mkG w h₀ os₀ mg mb X T) .dot_of (scOf (fnSt .dot_of)) (bdOf (fnSt .dot_of)) :=
 ⟨_, _, _, _, _, _, _, _, _, _, _, _, _, [], rfl, rfl, .nil, fun s xs hk hlen => by
  obtain ⟨a1, a2, rfl⟩ := len2 hlen
  exact BindsTo.of_eq rfl⟩
theorem at_after : FnAt (mkG w h₀ os₀ mg mb X T) .after (scOf (fnSt .after)) (bdOf (fnSt .after)) :=
 ⟨_, _, _, _, _, _, _, _, _, _, _, _, _, [], rfl, rfl, .nil, fun s xs hk hlen => by
  obtain ⟨a1, a2, rfl⟩ := len2 hlen
  exact BindsTo.of_eq rfl⟩
theorem at_last_terminal : FnAt (mkG w h₀ os₀ mg mb X T) .last_terminal (scOf (fnSt .last_terminal)) (bdOf (fnSt .last_terminal)) :=
 ⟨_, _, _, _, _, _, _, _, _, _, _, _, _, [], rfl, rfl, .nil, fun s xs hk hlen => by
  obtain ⟨a1, a2, rfl⟩ := len2 hlen
  exact BindsTo.of_eq rfl⟩
theorem at_law_pen : FnAt (mkG w h₀ os₀ mg mb X T) .law_pen (scOf (fnSt .law_pen)) (bdOf (fnSt .law_pen)) :=
 ⟨_, _, _, _, _, _, _, _, _, _, _, _, _, [], rfl, rfl, .nil, fun s xs hk hlen => by
  obtain ⟨a1, rfl⟩ := len1 hlen
  exact BindsTo.of_eq rfl⟩
theorem at_law_draw : FnAt (mkG w h₀ os₀ mg mb X T) .law_draw (scOf (fnSt .law_draw)) (bdOf (fnSt .law_draw)) :=
 ⟨_, _, _, _, _, _, _, _, _, _, _, _, _, [], rfl, rfl, .nil, fun s xs hk hlen => by
  obtain ⟨a1, a2, rfl⟩ := len2 hlen
  exact BindsTo.of_eq rfl⟩
theorem at_law_pick : FnAt (mkG w h₀ os₀ mg mb X T) .law_pick (scOf (fnSt .law_pick)) (bdOf (fnSt .law_pick)) :=
 ⟨_, _, _, _, _, _, _, _, _, _, _, _, _, [], rfl, rfl, .nil, fun s xs hk hlen => by
  obtain ⟨a1, a2, rfl⟩ := len2 hlen
  exact BindsTo.of_eq rfl⟩
theorem at_law_pairs : FnAt (mkG w h₀ os₀ mg mb X T) .law_pairs (scOf (fnSt .law_pairs)) (bdOf (fnSt .law_pairs)) :=
 ⟨_, _, _, _, _, _, _, _, _, _, _, _, _, [], rfl, rfl, .nil, fun s xs hk hlen => by
  obtain ⟨a1, rfl⟩ := len1 hlen
  exact BindsTo.of_eq rfl⟩
theorem at_law_empty : FnAt (mkG w h₀ os₀ mg mb X T) .law_empty (scOf (fnSt .law_empty)) (bdOf (fnSt .law_empty)) :=
 ⟨_, _, _, _, _, _, _, _, _, _, _, _, _, [], rfl, rfl, .nil, fun s xs hk hlen => by
  obtain ⟨a1, rfl⟩ := len1 hlen
  exact BindsTo.of_eq rfl⟩
theorem at_law_ahead : FnAt (mkG w h₀ os₀ mg mb X T) .law_ahead (scOf (fnSt .law_ahead)) (bdOf (fnSt .law_ahead)) :=
 ⟨_, _, _, _, _, _, _, _, _, _, _, _, _, [], rfl, rfl, .nil, fun s xs hk hlen => by
  obtain ⟨a1, a2, rfl⟩ := len2 hlen
  exact BindsTo.of_eq rfl⟩
theorem at_law_begins : FnAt (mkG w h₀ os₀ mg mb X T) .law_begins (scOf (fnSt .law_begins)) (bdOf (fnSt .law_begins)) :=
 ⟨_, _, _, _, _, _, _, _, _, _, _, _, _, [], rfl, rfl, .nil, fun s xs hk hlen => by
  obtain ⟨a1, a2, a3, rfl⟩ := len3 hlen
  exact BindsTo.of_eq rfl⟩
theorem at_law_pairs_of : FnAt (mkG w h₀ os₀ mg mb X T) .law_pairs_of (scOf (fnSt .law_pairs_of)) (bdOf (fnSt .law_pairs_of)) :=
 ⟨_, _, _, _, _, _, _, _, _, _, _, _, _, [], rfl, rfl, .nil, fun s xs hk hlen => by
  obtain ⟨a1, a2, a3, rfl⟩ := len3 hlen
  exact BindsTo.of_eq rfl⟩
theorem at_plain_grammar : FnAt (mkG w h₀ os₀ mg mb X T) .plain_grammar (scOf (fnSt .plain_grammar)) (bdOf (fnSt .plain_grammar)) :=
 ⟨_, _, _, _, _, _, _, _, _, _, _, _, _, [_], rfl, rfl, .cons (fun _ _ _ => rfl) .nil, fun s xs hk hlen => by
  obtain ⟨a1, rfl⟩ := len1 (Nat.add_right_cancel (show xs.length + 1 = 1 + 1 from hlen))
  exact binds_K (X.keeps hk) rfl rfl rfl rfl rfl⟩
theorem at_ruleInit : FnAt (mkG w h₀ os₀ mg mb X T) .ruleInit (scOf (fnSt .ruleInit)) (bdOf (fnSt .ruleInit)) :=
 ⟨_, _, _, _, _, _, _, _, _, _, _, _, _, [_, _, _], rfl, rfl, .cons (fun _ _ _ => rfl) (.cons (fun _ _ _ => ⟨_, rfl⟩) (.cons (fun _ _ _ => ⟨_, rfl⟩) .nil)), fun s xs hk hlen => by
  obtain ⟨a1, a2, a3, a4, a5, rfl⟩ := len5 (Nat.add_right_cancel (show xs.length + 3 = 5 + 3 from hlen))
  exact binds_K (X.keeps hk) rfl rfl rfl rfl rfl⟩
theorem fn_at (f : Fn) : FnAt (mkG w h₀ os₀ mg mb X T) f (scOf (fnSt f)) (bdOf (fnSt f)) := by
 cases f
 ·exact at_spread X T
 ·exact at_nullable X T
 ·exact at_first_of X T
 ·exact at_first_masks X T
 ·exact at_spread_items X T
 ·exact at_ruleInit X T
 ·exact at_grammarInit X T
 ·exact at_symbol_count X T
 ·exact at_is_terminal X T
 ·exact at_gnumber X T
 ·exact at_rules_of X T
 ·exact at_gitem X T
 ·exact at_rule_of X T
 ·exact at_dot_of X T
 ·exact at_after X T
 ·exact at_last_terminal X T
 ·exact at_plain_grammar X T
 ·exact at_law_pen X T
 ·exact at_law_draw X T
 ·exact at_law_pick X T
 ·exact at_law_pairs X T
 ·exact at_law_empty X T
 ·exact at_law_ahead X T
 ·exact at_law_begins X T
 ·exact at_law_pairs_of X T
theorem sc_ok (f : Fn) : ScOk (scOf (fnSt f)) (prog f).params = true := by
 cases f <;> decide +kernel
theorem body_ok {G : Gd} {C : CS} {n : Nat} (HC : SndC G C n) (f : Fn) : SndSs G C n (scOf (fnSt f)) (prog f).body (bdOf (fnSt f)) := by
 cases f
 ·exact ok_spread HC
 ·exact ok_nullable HC
 ·exact ok_first_of HC
 ·exact ok_first_masks HC
 ·exact ok_spread_items HC
 ·exact ok_ruleInit HC
 ·exact ok_grammarInit HC
 ·exact ok_symbol_count HC
 ·exact ok_is_terminal HC
 ·exact ok_gnumber HC
 ·exact ok_rules_of HC
 ·exact ok_gitem HC
 ·exact ok_rule_of HC
 ·exact ok_dot_of HC
 ·exact ok_after HC
 ·exact ok_last_terminal HC
 ·exact ok_plain_grammar HC
 ·exact ok_law_pen HC
 ·exact ok_law_draw HC
 ·exact ok_law_pick HC
 ·exact ok_law_pairs HC
 ·exact ok_law_empty HC
 ·exact ok_law_ahead HC
 ·exact ok_law_begins HC
 ·exact ok_law_pairs_of HC
theorem all_ok : ∀ n, SndC (mkG w h₀ os₀ mg mb X T) (CL prog n) n
 | 0 => fun f A I mh s vs xs Qm R hA S z r hw hQ => hw.elim
 | n + 1 => fun f A I mh s vs xs Qm R hA S z r hw hQ => snd_def (body_ok (all_ok n) f) (fn_at X T f) (sc_ok f) A I mh s vs xs Qm R hA S z r hw hQ
end
end Mine
end
section
namespace Mine
open PySem PySem.W PyProof.Rows PySem.Calls
noncomputable def me0 (a : Nat) : Env := upd env0 .script (.old a)
noncomputable def mh0 (a : Nat) (ns : List Int) : MH := ⟨fun _ => none, 0, fun b => if b = a then some ns else none⟩
theorem cells_eq (L : Nat) : cellsFrom (L + 1) (scOf (stAt 27)).names [] = [(("dot" : Str), L + 1 + 1 + 1 + 1 + 1), (("rule" : Str), L + 1 + 1 + 1 + 1), (("number" : Str), L + 1 + 1 + 1), (("grammar" : Str), L + 1 + 1), (("pen" : Str), L + 1)] := rfl
theorem cells_apart (L : Nat) : (cellsFrom (L + 1) (scOf (stAt 27)).names []).Pairwise fun x y => x.2 ≠ y.2 := by
 rw [cells_eq]; simp; lia
theorem law_nofree : (scOf (stAt 27)).names.all (fun x => x.2 != .free) = true := by decide +kernel
theorem cellsAre_mem {cm : Str → Option Value} {cs : List (Str × Addr)} {cells : List (Addr × Obj)} (h : CellsAre cm cs cells) {x : Str} {c : Addr} (hm : (x, c) ∈ cs) : ∃ o, (c, o) ∈ cells ∧ o.data = .cell (cm x) := by
 induction h with
 | nil => exact nomatch hm
 | cons h _ ih =>
  rcases List.mem_cons.mp hm with e | hm
  ·cases e; exact ⟨_, .head _, h⟩
  ·exact (ih hm).elim fun o q => ⟨o, .tail _ q.1, q.2⟩
theorem finish {w : World} {s₁ : Shared} {mg mb : Str → Option Value} (X : (KK w).In s₁.heap) (T : TopRead viewP looseN mg mb s₁.heap) (hg : s₁.gens = #[])
  {fa a : Addr} {cd : Value} {name : Str} {ns : List Int} {vs : List Value} (hL : s₁.heap.IsList a vs.toArray) (hI : IntsAre vs ns) {h₁ : Heap} {tk : Nat} {m cm : Str → Option Value} (F : Fr s₁.heap s₁.heap.objs.size h₁ m)
  (hm : m "script" = some (.ref a)) {cells : List (Addr × Obj)} (N0 : News s₁.heap s₁.heap.objs.size h₁ cells) (X0 : CellsAre cm (cellsFrom (s₁.heap.objs.size + 1) (scOf (stAt 27)).names []) cells)
  (hw : ∃ n, n ≤ 8 ∧ wSs (CL prog n) body_law (me0 a) (mh0 a ns) (fun fl _ _ => fl = .ret (.bool true))) {Q : Flow → Shared → Prop} {E : Value → Shared → Prop}
  (hQ : ∀ s', (∀ b o, s₁.heap.get? b = some o → s'.heap.get? b = some o) → s'.gens = #[] → s'.os = s₁.os → Q (.ret (.bool true)) s') :
  wpAny (model PySem.Challenge.rw_pq0571_01.row.prog w) (callerA.deeper (envOfC name (scOf (stAt 27)) s₁.heap.objs.size fa cd)) (execs (bdOf (stAt 27)) (envOfC name (scOf (stAt 27)) s₁.heap.objs.size fa cd)) Q E
   { heap := h₁, gens := s₁.gens, drawn := s₁.drawn, toks := tk, os := s₁.os } := by
 obtain ⟨n, hn, hw⟩ := hw
 have none_own : ∀ I b, ¬ Own I (mh0 a ns).nxt b := fun I b ⟨l, hl, _⟩ => absurd hl (Nat.not_lt_zero _)
 have S : (mkG w s₁.heap s₁.os mg mb X T).St ⟨fun _ => 0, fun _ => 0⟩ (mh0 a ns) { heap := h₁, gens := s₁.gens, drawn := s₁.drawn, toks := tk, os := s₁.os } :=
  ⟨F.keep, fun b hb => absurd hb (none_own _ b), hg, rfl, fun _ _ => rfl, fun l hl => absurd hl (Nat.not_lt_zero _), fun l k hl _ _ => absurd hl (Nat.not_lt_zero _), fun b ms hb => by
   by_cases hba : b = a
   ·subst hba
    have : (mh0 b ns).old b = some ns := if_pos rfl
    rw [this] at hb; cases hb
    exact ⟨vs, hL, hI⟩
   ·have : (mh0 a ns).old b = none := if_neg hba
    rw [this] at hb; cases hb⟩
 have hme : ∀ {x v}, me0 a x = some v → x = .script ∧ v = .old a := fun {x v} h => by
  unfold me0 upd at h
  split at h
  ·rename_i hx; cases h; exact ⟨hx, rfl⟩
  ·cases h
 have R : EnvR (mkG w s₁.heap s₁.os mg mb X T) (envOfC name (scOf (stAt 27)) s₁.heap.objs.size fa cd) (me0 a) ⟨fun _ => 0, fun _ => 0⟩ (mh0 a ns).nxt h₁ := by
  refine ⟨rfl, rfl, rfl, ⟨m, F, fun x v h1 h2 => ?_⟩, none_own _ _, fun x hx => ?_, fun x y c hx hy => ?_⟩
  ·obtain ⟨rfl, rfl⟩ := hme h1
   exact ⟨_, hm, rfl⟩
  ·have hxc : (scOf (stAt 27)).names.lookup x.txt = some .cell := by
    rcases hx with hx | hx
    ·exact hx
    ·exfalso
     obtain ⟨y, hy, hz⟩ := lookup_mem (show (scOf (stAt 27)).names.lookup x.txt = some .free from hx)
     have := List.all_eq_true.mp law_nofree y hy
     rw [hz] at this; simp at this
   have hc := cellsFrom_some (x := x.txt) (scOf (stAt 27)).names (s₁.heap.objs.size + 1) [] (.inl hxc)
   obtain ⟨c, hc⟩ := Option.isSome_iff_exists.mp hc
   obtain ⟨o, h1, h2⟩ := cellsAre_mem X0 (mem_of_lookup hc)
   obtain ⟨h3, h4, h5⟩ := N0 _ h1
   refine ⟨c, _, hc, ⟨o, h3, h2⟩, none_own _ _, h5, fun v hv => ?_⟩
   obtain ⟨rfl, _⟩ := hme hv
   exact absurd hxc (by decide +kernel)
  ·exact Vr.inj (name_of_addr (cells_apart _) (mem_of_lookup hx) (mem_of_lookup hy))
 refine ok_law (all_ok X T n) _ _ _ _ _ _ _ _ _ ⟨rfl, ?_, ?_⟩ rfl S R hw fun fl me' mh' fl' I' s' hp e S' R' rl => ?_
 ·simp only [depth_deeper, depth_caller]
  show 301 + 1 + 10 * n + 20 ≤ recursionLimit
  have : recursionLimit = 1000 := rfl
  lia
 ·show 4 + 3 + 50 * n + 100 ≤ 9900
  lia
 ·subst hp
  obtain ⟨x, rfl, rl⟩ := rl
  cases rl
  exact hQ s' (fun b o e => S'.base b o e) S'.gens S'.os
end Mine
end
section
namespace Mine
noncomputable def Wf (h : MH) : Prop := ∀ l, h.nxt ≤ l → h.get l = none
structure Ke (W : Nat → Prop) (h h' : MH) : Prop where
 le : h.nxt ≤ h'.nxt
 keep : ∀ l o, h.get l = some o → ¬ W l → h'.get l = some o
 wf : Wf h'
 old : h'.old = h.old
abbrev NoW : Nat → Prop := fun _ => False
abbrev Kp (h h' : MH) : Prop := Ke NoW h h'
theorem Wf.lt {h : MH} (w : Wf h) {l : Nat} {o : MO} (e : h.get l = some o) : l < h.nxt := by
 rcases Nat.lt_or_ge l h.nxt with q | q
 ·exact q
 ·rw [w l q] at e; cases e
theorem get_new (h : MH) (o : MO) : (h.new o).get h.nxt = some o := if_pos rfl
theorem get_new_ne (h : MH) (o : MO) {l : Nat} (q : l ≠ h.nxt) : (h.new o).get l = h.get l := if_neg q
theorem get_new_of {h : MH} (w : Wf h) (o : MO) {l : Nat} {o' : MO} (e : h.get l = some o') : (h.new o).get l = some o' := by
 rw [get_new_ne _ _ (Nat.ne_of_lt (w.lt e))]; exact e
theorem get_set (h : MH) (l : Nat) (o : MO) : (h.set l o).get l = some o := if_pos rfl
theorem get_set_ne (h : MH) (o : MO) {l k : Nat} (q : k ≠ l) : (h.set l o).get k = h.get k := if_neg q
theorem Ke.refl {W : Nat → Prop} {h : MH} (w : Wf h) : Ke W h h := ⟨Nat.le_refl _, fun _ _ e _ => e, w, rfl⟩
theorem Ke.trans {W : Nat → Prop} {h h' h'' : MH} (a : Ke W h h') (b : Ke W h' h'') : Ke W h h'' :=
 ⟨Nat.le_trans a.le b.le, fun l o e q => b.keep l o (a.keep l o e q) q, b.wf, b.old.trans a.old⟩
theorem Ke.weak {W V : Nat → Prop} {h h' : MH} (a : Ke W h h') (q : ∀ l, W l → V l) : Ke V h h' := ⟨a.le, fun l o e n => a.keep l o e fun z => n (q l z), a.wf, a.old⟩
theorem Ke.new {W : Nat → Prop} {h h' : MH} (a : Ke W h h') (o : MO) : Ke W h (h'.new o) :=
 ⟨Nat.le_succ_of_le a.le, fun l o' e q => get_new_of a.wf o (a.keep l o' e q), fun l hl => by
  have : h'.nxt + 1 ≤ l := hl
  rw [get_new_ne _ _ (by lia)]; exact a.wf l (by lia), a.old⟩
theorem Ke.set {W : Nat → Prop} {h h' : MH} (a : Ke W h h') {l : Nat} (o : MO) (q : h.get l = none ∨ W l) (z : l < h'.nxt) : Ke W h (h'.set l o) :=
 ⟨a.le, fun k o' e n => by
  have hk : k ≠ l := fun x => by subst x; rcases q with q | q; rw [q] at e; cases e; exact n q
  rw [get_set_ne _ _ hk]; exact a.keep k o' e n, fun k hk => by
  have hk' : h'.nxt ≤ k := hk
  rw [get_set_ne _ _ (by lia)]; exact a.wf k hk', a.old⟩
theorem Kp.get {h h' : MH} (a : Kp h h') {l : Nat} {o : MO} (e : h.get l = some o) : h'.get l = some o := a.keep l o e fun x => x
theorem Kp.up {W : Nat → Prop} {h h' : MH} (a : Kp h h') : Ke W h h' := a.weak fun _ x => x.elim
theorem Wf.new {h : MH} (w : Wf h) (o : MO) : Wf (h.new o) := ((Ke.refl (W := NoW) w).new o).wf
theorem for_seq {α : Type} {env : α → Env} {v : V} {xs : List Vr} {step : Env → α → MH → (α → MH → Prop) → Prop} {vs : List V} (Inv : Nat → α → MH → Prop) {Q : α → MH → Prop}
  (hit : ∀ i a h, Inv i a h → items h v = some vs)
  (hst : ∀ i a h x, vs[i]? = some x → Inv i a h → ∃ e', bindT (env a) xs x = some e' ∧ ∀ K : α → MH → Prop, (∀ a' h', Inv (i + 1) a' h' → K a' h') → step e' a h K)
  (hend : ∀ a h, Inv vs.length a h → Q a h) {a : α} {h : MH} (h0 : Inv 0 a h) : ∃ n, wFor env (.seq v) xs step n 0 a h Q := by
 have key : ∀ k i a h, vs.length = i + k → Inv i a h → wFor env (.seq v) xs step (k + 1) i a h Q := by
  intro k
  induction k with
  | zero =>
   intro i a h hi hI
   refine ⟨vs, hit i a h hI, .inl ⟨by lia, hend a h ?_⟩⟩
   rw [hi]; exact hI
  | succ k ih =>
   intro i a h hi hI
   have hx : vs[i]? = some vs[i] := List.getElem?_eq_getElem (by lia)
   obtain ⟨e', he, hs⟩ := hst i a h _ hx hI
   exact ⟨vs, hit i a h hI, .inr ⟨_, e', ⟨hx, he⟩, hs _ fun a' h' hI' => ih (i + 1) a' h' (by lia) hI'⟩⟩
 exact ⟨_, key vs.length 0 a h (by lia) h0⟩
theorem for_range {α : Type} {env : α → Env} {n : Nat} {x : Vr} {step : Env → α → MH → (α → MH → Prop) → Prop} (Inv : Nat → α → MH → Prop) {Q : α → MH → Prop} (hn : n < 2 ^ 20)
  (hst : ∀ i a h, i < n → Inv i a h → ∀ K : α → MH → Prop, (∀ a' h', Inv (i + 1) a' h' → K a' h') → step (upd (env a) x (.int i)) a h K)
  (hend : ∀ a h, Inv n a h → Q a h) {a : α} {h : MH} (h0 : Inv 0 a h) : ∃ m, wFor env (.range n) [x] step m 0 a h Q := by
 have key : ∀ k i a h, n = i + k → Inv i a h → wFor env (.range n) [x] step (k + 1) i a h Q := by
  intro k
  induction k with
  | zero =>
   intro i a h hi hI
   refine .inl ⟨by lia, hend a h ?_⟩
   rw [hi]; exact hI
  | succ k ih =>
   intro i a h hi hI
   exact .inr ⟨x, ⟨by lia, by unfold small; lia, rfl⟩, hst i a h (by lia) hI _ fun a' h' hI' => ih (i + 1) a' h' (by lia) hI'⟩
 exact ⟨_, key n 0 a h (by lia) h0⟩
theorem for_enum {α : Type} {env : α → Env} {l : Nat} {x y : Vr} {step : Env → α → MH → (α → MH → Prop) → Prop} {vs : List V} (Inv : Nat → α → MH → Prop) {Q : α → MH → Prop} (hn : vs.length ≤ room) (hxy : x ≠ y)
  (hit : ∀ i a h, Inv i a h → h.get l = some (.list vs))
  (hst : ∀ i a h v, vs[i]? = some v → Inv i a h → ∀ K : α → MH → Prop, (∀ a' h', Inv (i + 1) a' h' → K a' h') → step (upd (upd (env a) x (.int i)) y v) a h K)
  (hend : ∀ a h, Inv vs.length a h → Q a h) {a : α} {h : MH} (h0 : Inv 0 a h) : ∃ m, wFor env (.enum (.loc l)) [x, y] step m 0 a h Q := by
 have key : ∀ k i a h, vs.length = i + k → Inv i a h → wFor env (.enum (.loc l)) [x, y] step (k + 1) i a h Q := by
  intro k
  induction k with
  | zero =>
   intro i a h hi hI
   refine ⟨l, vs, ⟨rfl, hit i a h hI⟩, .inl ⟨by lia, hend a h ?_⟩⟩
   rw [hi]; exact hI
  | succ k ih =>
   intro i a h hi hI
   have hx : vs[i]? = some vs[i] := List.getElem?_eq_getElem (by lia)
   exact ⟨l, vs, ⟨rfl, hit i a h hI⟩, .inr ⟨_, x, y, ⟨hx, rfl, hxy, hn⟩, hst i a h _ hx hI _ fun a' h' hI' => ih (i + 1) a' h' (by lia) hI'⟩⟩
 exact ⟨_, key vs.length 0 a h (by lia) h0⟩
theorem while_inv {test : Env → MH → (Bool → MH → Prop) → Prop} {body : Env → MH → (Env → MH → Prop) → Prop} {Q : Env → MH → Prop} (Inv : Nat → Env → MH → Prop)
  (hst : ∀ m e h, Inv m e h → ∀ K : Env → MH → Prop, (∀ m' e' h', m' < m → Inv m' e' h' → K e' h') → test e h fun r h1 => if r = true then body e h1 K else Q e h1)
  {m : Nat} {e : Env} {h : MH} (h0 : Inv m e h) : ∃ n, wWhile test body n e h Q := by
 have key : ∀ n m e h, m ≤ n → Inv m e h → wWhile test body (n + 1) e h Q := by
  intro n
  induction n with
  | zero =>
   intro m e h hm hI
   exact hst m e h hI _ fun m' e' h' hlt _ => absurd hlt (by lia)
  | succ n ih =>
   intro m e h hm hI
   exact hst m e h hI _ fun m' e' h' hlt hI' => ih m' e' h' (by lia) hI'
 exact ⟨_, key m m e h (Nat.le_refl _) h0⟩
section
variable {C : CS} {e : Env} {h : MH} {Q : V → MH → Prop} {P : V → Prop} {l : Nat}
theorem r_var {x : Vr} {v : V} (he : e x = some v) (q : Q v h) : wE C (.var x) e h Q := ⟨v, he, q⟩
theorem r_get {vs : List V} {n : Nat} {v : V} (hl : h.get l = some (.list vs)) (hs : n < 2 ^ 20) (hi : vs[n]? = some v) (q : P v) : subop (.loc l) (.int (n : Int)) h P :=
 .inl ⟨vs, n, v, ⟨hl, rfl, by lia, by unfold small; lia, by simpa using hi⟩, q⟩
theorem r_gett {ws : List W} {n : Nat} {w : W} (hs : n < 2 ^ 20) (hi : ws[n]? = some w) (q : P (.w w)) : subop (.tup ws) (.int (n : Int)) h P :=
 ⟨w, ⟨by lia, by unfold small; lia, by simpa using hi⟩, q⟩
theorem r_attr {c : Cl} {fs : Fd → Option V} {f : Fd} {v : V} (hl : h.get l = some (.inst c fs)) (hf : fieldOf c f = true) (hv : fs f = some v) (q : P v) : attrop (.loc l) f h P := ⟨l, c, fs, v, ⟨rfl, hl, hf, hv⟩, q⟩
theorem r_lenL {vs : List V} (hl : h.get l = some (.list vs)) (hr : vs.length ≤ room) (q : Q (.int vs.length) h) : b1op .len (.loc l) h Q := ⟨vs, ⟨by simp [items, hl], hr⟩, q⟩
theorem r_lenT {ws : List W} (hr : ws.length ≤ room) (q : Q (.int ws.length) h) : b1op .len (.tup ws) h Q := ⟨ws.map .w, ⟨rfl, by simpa using hr⟩, by simpa using q⟩
end
end Mine
end
section
namespace Mine
abbrev Rl := Nat × List Nat
noncomputable def rulesOf (rs : List Rl) (s : Nat) : List Nat := (List.range rs.length).filter fun i => decide ((rs[i]?.map (·.1)) = some s)
noncomputable def offs : List Rl → Nat → List Nat
 | [], _ => []
 | r :: rs, k => k :: offs rs (k + (r.2.length + 1))
noncomputable def owns : List Rl → Nat → List Nat
 | [], _ => []
 | r :: rs, k => List.replicate (r.2.length + 1) k ++ owns rs (k + 1)
noncomputable def item (rs : List Rl) (r d : Nat) : Nat := ((offs rs 0)[r]?).getD 0 + d
theorem offs_length : ∀ (rs : List Rl) (k : Nat), (offs rs k).length = rs.length
 | [], _ => rfl
 | r :: rs, k => by simp [offs, offs_length rs]
theorem offs_add (rs : List Rl) : ∀ (k r : Nat), r < rs.length → (offs rs k)[r]? = ((offs rs 0)[r]?).map (· + k) := by
 induction rs with
 | nil => exact fun _ _ h => nomatch h
 | cons x rs ih =>
  intro k r h
  cases r with
  | zero => simp [offs]
  | succ r =>
   have h' : r < rs.length := Nat.lt_of_succ_lt_succ h
   simp only [offs, List.getElem?_cons_succ]
   rw [ih (k + (x.2.length + 1)) r h', ih (0 + (x.2.length + 1)) r h', List.getElem?_eq_getElem (show r < (offs rs 0).length by rw [offs_length]; exact h')]
   simp only [Option.map_some, Option.some.injEq]; lia
theorem owns_at (rs : List Rl) : ∀ (k r d : Nat) (x : Rl), rs[r]? = some x → d ≤ x.2.length → (owns rs k)[item rs r d]? = some (k + r) := by
 induction rs with
 | nil => exact fun _ _ _ _ h _ => none_ne h
 | cons y rs ih =>
  intro k r d x h hd
  cases r with
  | zero =>
   cases h
   rw [show item (y :: rs) 0 d = d from Nat.zero_add d, owns, List.getElem?_append_left (by rw [List.length_replicate]; exact Nat.lt_succ_of_le hd), List.getElem?_replicate, if_pos (Nat.lt_succ_of_le hd)]
   rfl
  | succ r =>
   have h : rs[r]? = some x := h
   have hr : r < rs.length := (List.getElem?_eq_some_iff.mp h).1
   have e : item (y :: rs) (r + 1) d = (y.2.length + 1) + item rs r d := by
    unfold item
    simp only [offs, List.getElem?_cons_succ]
    rw [offs_add rs _ r hr, List.getElem?_eq_getElem (show r < (offs rs 0).length by rw [offs_length]; exact hr)]
    simp; lia
   rw [e, owns, List.getElem?_append_right (by simp)]
   simp only [List.length_replicate, Nat.add_sub_cancel_left]
   rw [ih (k + 1) r d x h hd, Nat.add_assoc, Nat.add_comm 1 r]
theorem owns_length : ∀ (rs : List Rl) (k : Nat), (∀ r ∈ rs, r.2.length ≤ 8) → (owns rs k).length ≤ 9 * rs.length
 | [], _, _ => by simp [owns]
 | r :: rs, k, h => by
  have h1 := h r (.head _)
  have h2 := owns_length rs (k + 1) fun x hx => h x (.tail _ hx)
  simp only [owns, List.length_append, List.length_replicate, List.length_cons]; lia
theorem item_inj {rs : List Rl} {r d r' d' : Nat} {x x' : Rl} (h : rs[r]? = some x) (h' : rs[r']? = some x') (hd : d ≤ x.2.length) (hd' : d' ≤ x'.2.length) (e : item rs r d = item rs r' d') : r = r' ∧ d = d' := by
 have a := owns_at rs 0 r d x h hd
 have b := owns_at rs 0 r' d' x' h' hd'
 rw [e, b] at a
 have hr : r = r' := by simp at a; exact a.symm
 subst hr
 unfold item at e
 exact ⟨rfl, by lia⟩
set_option genInjectivity false in
structure Loc where
 fs : Fd → Option V
 (ln lr lb lo lw : Nat)
 (rl bl : List Nat)
inductive RAt (h : MH) (l i : Nat) (r : Rl) : Prop
 | mk (fs : Fd → Option V) (g : h.get l = some (.inst .rule fs)) (q : fs .number = some (.int (i : Int)) ∧ fs .left = some (.int (r.1 : Int)) ∧ fs .right = some (.tup (r.2.map fun n : Nat => W.int n)))
noncomputable def vInts (ns : List Nat) : List V := ns.map fun n : Nat => V.int (n : Int)
theorem vInts_at {ns : List Nat} {i n : Nat} (h : ns[i]? = some n) : (vInts ns)[i]? = some (V.int (n : Int)) := by unfold vInts; rw [List.getElem?_map, h]; rfl
theorem vInts_length (ns : List Nat) : (vInts ns).length = ns.length := by simp [vInts]
structure GAt (h : MH) (g : Nat) (L : Loc) (names : List Nm) (nt : Nat) (rs : List Rl) : Prop where
 at_ : h.get g = some (.inst .grammar L.fs)
 nonum : L.fs .number = none
 fnames : L.fs .names = some (.loc L.ln)
 hnames : h.get L.ln = some (.list (names.map V.str))
 fnt : L.fs .terminal_count = some (.int (nt : Int))
 frules : L.fs .rules = some (.loc L.lr)
 hrules : h.get L.lr = some (.list (L.rl.map V.loc))
 nrules : L.rl.length = rs.length
 rule : ∀ (i : Nat) r l, rs[i]? = some r → L.rl[i]? = some l → RAt h l i r
 fby : L.fs .by_left = some (.loc L.lb)
 hby : h.get L.lb = some (.list (L.bl.map V.loc))
 nby : L.bl.length = names.length
 by_ : ∀ (s l : Nat), L.bl[s]? = some l → h.get l = some (.list (vInts (rulesOf rs s)))
 foff : L.fs .offsets = some (.loc L.lo)
 hoff : h.get L.lo = some (.list (vInts (offs rs 0)))
 fown : L.fs .owners = some (.loc L.lw)
 hown : h.get L.lw = some (.list (vInts (owns rs 0)))
 /-- bounds, and well-formed rules -/
 nrs : rs.length ≤ 40
 nnames : names.length ≤ 40
 left : ∀ r ∈ rs, r.1 < names.length ∧ nt ≤ r.1
 right : ∀ r ∈ rs, r.2.length ≤ 8 ∧ ∀ s ∈ r.2, s < names.length
 ntle : nt ≤ names.length
theorem GAt.keep {h h' : MH} {g : Nat} {L : Loc} {names : List Nm} {nt : Nat} {rs : List Rl} (G : GAt h g L names nt rs) {W : Nat → Prop} (k : Ke W h h') (hW : ∀ l o, h.get l = some o → W l → ∃ xs, o = .list xs ∧ l ≠ L.ln ∧ l ≠ L.lr ∧ l ≠ L.lb ∧ l ≠ L.lo ∧ l ≠ L.lw ∧ l ∉ L.bl) : GAt h' g L names nt rs := by
 have kk : ∀ {l o}, h.get l = some o → (∀ xs, o = .list xs → l = L.ln ∨ l = L.lr ∨ l = L.lb ∨ l = L.lo ∨ l = L.lw ∨ l ∈ L.bl) → h'.get l = some o := fun {l o} e q => k.keep l o e fun w => by
  obtain ⟨xs, rfl, a, b, c, d, f, z⟩ := hW l o e w
  rcases q xs rfl with q | q | q | q | q | q
  ·exact a q
  ·exact b q
  ·exact c q
  ·exact d q
  ·exact f q
  ·exact z q
 exact { G with
  at_ := kk G.at_ fun _ q => by cases q
  hnames := kk G.hnames fun _ _ => .inl rfl
  hrules := kk G.hrules fun _ _ => .inr (.inl rfl)
  rule := fun i r l h1 h2 => let ⟨fs, a, b⟩ := G.rule i r l h1 h2; ⟨fs, kk a (fun _ q => nomatch q), b⟩
  hby := kk G.hby fun _ _ => .inr (.inr (.inl rfl))
  by_ := fun s l h1 => kk (G.by_ s l h1) fun _ _ => .inr (.inr (.inr (.inr (.inr (List.mem_of_getElem? h1)))))
  hoff := kk G.hoff fun _ _ => .inr (.inr (.inr (.inl rfl)))
  hown := kk G.hown fun _ _ => .inr (.inr (.inr (.inr (.inl rfl)))) }
theorem GAt.kp {h h' : MH} {g : Nat} {L : Loc} {names : List Nm} {nt : Nat} {rs : List Rl} (G : GAt h g L names nt rs) (k : Kp h h') : GAt h' g L names nt rs := G.keep k fun _ _ _ x => x.elim
section
variable {h : MH} {g : Nat} {L : Loc} {names : List Nm} {nt : Nat} {rs : List Rl} {n : Nat} {Q : V → MH → Prop}
theorem sp_symbol_count (G : GAt h g L names nt rs) (q : Q (.int (names.length : Int)) h) : CL prog (n + 1) .symbol_count [.loc g] h Q := by
 refine ⟨_, rfl, ?_⟩
 dsimp only [prog,body_symbol_count,UF,UG,YA,YB,YC,YD,YE,YF,YG,YH,YI,YJ,YK,YL,EA,EB,EC,ED,EE,EF,EG,EH,EI,EJ,EK,EL,EM,EN,EO,EP,EQ,ER,ES,ET,EU,EV,EW,EX,EY,EZ,Ea,Eb,Ec]
 refine ⟨_, rfl, r_attr G.at_ rfl G.fnames (r_lenL G.hnames ?_ ?_)⟩
 ·have := G.nnames; unfold room; simp; lia
 ·simpa using q
theorem sp_is_terminal {s : Nat} (G : GAt h g L names nt rs) (q : Q (.bool (decide (s < nt))) h) : CL prog (n + 1) .is_terminal [.loc g, .int (s : Int)] h Q := by
 refine ⟨_, rfl, ?_⟩
 dsimp only [prog,body_is_terminal,UF,UG,YA,YB,YC,YD,YE,YF,YG,YH,YI,YJ,YK,YL,EA,EB,EC,ED,EE,EF,EG,EH,EI,EJ,EK,EL,EM,EN,EO,EP,EQ,ER,ES,ET,EU,EV,EW,EX,EY,EZ,Ea,Eb,Ec]
 refine ⟨_, rfl, _, rfl, r_attr G.at_ rfl G.fnt ?_⟩
 show Q (.bool (decide ((s : Int) < (nt : Int)))) h
 rw [show decide ((s : Int) < (nt : Int)) = decide (s < nt) from decide_eq_decide.mpr (by lia)]
 exact q
theorem vin_strs (x : Nm) : ∀ (ns : List Nm), vin (.str x) (ns.map V.str) = some (decide (x ∈ ns))
 | [] => rfl
 | y :: ns => by
  show (veq (.str y) (.str x)).bind _ = _
  rw [vin_strs x ns]
  show some (decide (y = x) || decide (x ∈ ns)) = _
  congr 1
  by_cases hx : y = x
  ·simp [hx]
  ·have : ¬ x = y := fun e => hx e.symm
   simp [hx, this]
theorem sp_gnumber {x : Nm} (G : GAt h g L names nt rs) (q : Q (.int (if x ∈ names then ((names.idxOf x : Nat) : Int) else -1)) h) : CL prog (n + 1) .gnumber [.loc g, .str x] h Q := by
 refine ⟨_, rfl, ?_⟩
 dsimp only [prog,body_gnumber,UF,UG,YA,YB,YC,YD,YE,YF,YG,YH,YI,YJ,YK,YL,EA,EB,EC,ED,EE,EF,EG,EH,EI,EJ,EK,EL,EM,EN,EO,EP,EQ,ER,ES,ET,EU,EV,EW,EX,EY,EZ,Ea,Eb,Ec,JA,JB,JC,JD,JE,JF,JG]
 refine ⟨_, rfl, _, rfl, r_attr G.at_ rfl G.fnames ⟨_, _, ⟨G.hnames, vin_strs x names⟩, ?_⟩⟩
 by_cases hx : x ∈ names
 ·rw [if_pos hx] at q
  rw [if_pos (by simpa using hx)]
  exact ⟨_, rfl, r_attr G.at_ rfl G.fnames ⟨⟨_, _, rfl, G.hnames⟩, _, rfl, _, names, x, ⟨rfl, rfl, G.hnames, hx, by have := G.nnames; lia⟩, q⟩⟩
 ·rw [if_neg hx] at q
  rw [if_neg (by simpa using hx)]
  exact q
theorem G_rule (G : GAt h g L names nt rs) {r : Nat} {x : Rl} (hr : rs[r]? = some x) : ∃ l, L.rl[r]? = some l ∧ RAt h l r x := by
 have hlt : r < rs.length := by
  rcases Nat.lt_or_ge r rs.length with q | q
  ·exact q
  ·rw [List.getElem?_eq_none q] at hr; cases hr
 have : r < L.rl.length := by rw [G.nrules]; exact hlt
 exact ⟨_, List.getElem?_eq_getElem this, G.rule r x _ hr (List.getElem?_eq_getElem this)⟩
theorem lt_of_get {α : Type} {xs : List α} {i : Nat} {x : α} (h : xs[i]? = some x) : i < xs.length := by
 rcases Nat.lt_or_ge i xs.length with q | q
 ·exact q
 ·rw [List.getElem?_eq_none q] at h; cases h
theorem G_own (G : GAt h g L names nt rs) : (owns rs 0).length < 2 ^ 20 := by
 have := owns_length rs 0 fun r hr => (G.right r hr).1
 have := G.nrs; lia
theorem item_lt (G : GAt h g L names nt rs) {r d : Nat} {x : Rl} (hr : rs[r]? = some x) (hd : d ≤ x.2.length) : item rs r d < 2 ^ 20 := by
 have := lt_of_get (owns_at rs 0 r d x hr hd)
 have := G_own G; lia
theorem offs_at (G : GAt h g L names nt rs) {r : Nat} {x : Rl} (hr : rs[r]? = some x) : (offs rs 0)[r]? = some (item rs r 0) := by
 have := lt_of_get hr
 have h2 : r < (offs rs 0).length := by rw [offs_length]; exact this
 unfold item
 rw [List.getElem?_eq_getElem h2]; rfl
theorem r_small (G : GAt h g L names nt rs) {r : Nat} {x : Rl} (hr : rs[r]? = some x) : r < 2 ^ 20 := by have := lt_of_get hr; have := G.nrs; lia
theorem item_split (rs : List Rl) (r d : Nat) : ((item rs r d : Nat) : Int) = ((item rs r 0 : Nat) : Int) + (d : Int) := by unfold item; lia
theorem sp_gitem {r d : Nat} {x : Rl} (G : GAt h g L names nt rs) (hr : rs[r]? = some x) (q : Q (.int ((item rs r d : Nat) : Int)) h) : CL prog (n + 1) .gitem [.loc g, .int (r : Int), .int (d : Int)] h Q := by
 refine ⟨_, rfl, ?_⟩
 dsimp only [prog,body_gitem,UF,UG,YA,YB,YC,YD,YE,YF,YG,YH,YI,YJ,YK,YL,EA,EB,EC,ED,EE,EF,EG,EH,EI,EJ,EK,EL,EM,EN,EO,EP,EQ,ER,ES,ET,EU,EV,EW,EX,EY,EZ,Ea,Eb,Ec]
 refine ⟨_, rfl, r_attr G.at_ rfl G.foff ⟨_, rfl, r_get G.hoff (r_small G hr) (vInts_at (offs_at G hr)) ⟨_, rfl, ?_⟩⟩⟩
 show Q (.int (((item rs r 0 : Nat) : Int) + (d : Int))) h
 rw [← item_split]; exact q
theorem sp_rule_of {r d : Nat} {x : Rl} (G : GAt h g L names nt rs) (hr : rs[r]? = some x) (hd : d ≤ x.2.length) (q : Q (.int (r : Int)) h) : CL prog (n + 1) .rule_of [.loc g, .int ((item rs r d : Nat) : Int)] h Q := by
 refine ⟨_, rfl, ?_⟩
 dsimp only [prog,body_rule_of,UF,UG,YA,YB,YC,YD,YE,YF,YG,YH,YI,YJ,YK,YL,EA,EB,EC,ED,EE,EF,EG,EH,EI,EJ,EK,EL,EM,EN,EO,EP,EQ,ER,ES,ET,EU,EV,EW,EX,EY,EZ,Ea,Eb,Ec]
 refine ⟨_, rfl, r_attr G.at_ rfl G.fown ⟨_, rfl, r_get G.hown (item_lt G hr hd) (vInts_at (owns_at rs 0 r d x hr hd)) ?_⟩⟩
 rw [Nat.zero_add]; exact q
theorem sp_dot_of {r d : Nat} {x : Rl} (G : GAt h g L names nt rs) (hr : rs[r]? = some x) (hd : d ≤ x.2.length) (q : Q (.int (d : Int)) h) : CL prog (n + 1) .dot_of [.loc g, .int ((item rs r d : Nat) : Int)] h Q := by
 refine ⟨_, rfl, ?_⟩
 dsimp only [prog,body_dot_of,UF,UG,YA,YB,YC,YD,YE,YF,YG,YH,YI,YJ,YK,YL,EA,EB,EC,ED,EE,EF,EG,EH,EI,EJ,EK,EL,EM,EN,EO,EP,EQ,ER,ES,ET,EU,EV,EW,EX,EY,EZ,Ea,Eb,Ec]
 refine ⟨_, rfl, _, rfl, r_attr G.at_ rfl G.foff ⟨_, rfl, r_attr G.at_ rfl G.fown ⟨_, rfl, r_get G.hown (item_lt G hr hd) (vInts_at (owns_at rs 0 r d x hr hd)) ?_⟩⟩⟩
 rw [Nat.zero_add]
 refine r_get G.hoff (r_small G hr) (vInts_at (offs_at G hr)) ?_
 show Q (.int (((item rs r d : Nat) : Int) - ((item rs r 0 : Nat) : Int))) h
 rw [show ((item rs r d : Nat) : Int) - ((item rs r 0 : Nat) : Int) = (d : Int) by have := item_split rs r d; lia]
 exact q
theorem sp_after {r d : Nat} {x : Rl} (G : GAt h g L names nt rs) (hr : rs[r]? = some x) (hd : d ≤ x.2.length) (q : Q (.int (match x.2[d]? with | some s => (s : Int) | none => -1)) h) :
  CL prog (n + 1) .after [.loc g, .int ((item rs r d : Nat) : Int)] h Q := by
 obtain ⟨l, hl, fs, h1, h2, h3, h4⟩ := G_rule G hr
 refine ⟨_, rfl, ?_⟩
 dsimp only [prog,body_after,UF,UG,YA,YB,YC,YD,YE,YF,YG,YH,YI,YJ,YK,YL,EA,EB,EC,ED,EE,EF,EG,EH,EI,EJ,EK,EL,EM,EN,EO,EP,EQ,ER,ES,ET,EU,EV,EW,EX,EY,EZ,Ea,Eb,Ec,JA,JB,JC,JD,JE,JF,JG]
 refine ⟨_, rfl, r_attr G.at_ rfl G.frules ⟨_, rfl, r_attr G.at_ rfl G.fown ⟨_, rfl, r_get G.hown (item_lt G hr hd) (vInts_at (owns_at rs 0 r d x hr hd)) ?_⟩⟩⟩
 rw [Nat.zero_add]
 refine r_get (v := .loc l) G.hrules (r_small G hr) (by rw [List.getElem?_map, hl]; rfl) (r_attr h1 rfl h4 ?_)
 refine ⟨_, rfl, _, rfl, r_attr G.at_ rfl G.foff ⟨_, rfl, r_attr G.at_ rfl G.fown ⟨_, rfl, r_get G.hown (item_lt G hr hd) (vInts_at (owns_at rs 0 r d x hr hd)) ?_⟩⟩⟩
 rw [Nat.zero_add]
 refine r_get G.hoff (r_small G hr) (vInts_at (offs_at G hr)) ?_
 have e1 : ((item rs r d : Nat) : Int) - ((item rs r 0 : Nat) : Int) = (d : Int) := by have := item_split rs r d; lia
 simp only [binop, onI, e1]
 have hx := (G.right x (List.mem_of_getElem? hr)).1
 refine ⟨_, rfl, _, rfl, r_lenT (by unfold room; simp; lia) ?_⟩
 by_cases hlt : d < x.2.length
 ·refine (if_pos (c := decide ((d : Int) < ((x.2.map fun n : Nat => W.int n).length : Int)) = true) (by simp; lia)).mpr ?_
  refine ⟨_, rfl, _, rfl, r_gett (w := .int (x.2[d] : Nat)) (by lia) (by simp [hlt]) ?_⟩
  rw [List.getElem?_eq_getElem hlt] at q
  exact q
 ·refine (if_neg (c := decide ((d : Int) < ((x.2.map fun n : Nat => W.int n).length : Int)) = true) (by simp; lia)).mpr ?_
  rw [List.getElem?_eq_none (by lia)] at q
  exact q
theorem sp_rules_of {s : Nat} (G : GAt h g L names nt rs) (hs : s < names.length) (q : Q (.loc h.nxt) (h.new (.list (vInts (rulesOf rs s))))) : CL prog (n + 1) .rules_of [.loc g, .int (s : Int)] h Q := by
 have hb : s < L.bl.length := by rw [G.nby]; exact hs
 refine ⟨_, rfl, ?_⟩
 dsimp only [prog,body_rules_of,UF,UG,YA,YB,YC,YD,YE,YF,YG,YH,YI,YJ,YK,YL,EA,EB,EC,ED,EE,EF,EG,EH,EI,EJ,EK,EL,EM,EN,EO,EP,EQ,ER,ES,ET,EU,EV,EW,EX,EY,EZ,Ea,Eb,Ec]
 refine ⟨_, rfl, r_attr G.at_ rfl G.fby ⟨_, rfl, r_get (v := .loc L.bl[s]) G.hby (by have := G.nnames; lia) (by rw [List.getElem?_map, List.getElem?_eq_getElem hb]; rfl) ?_⟩⟩
 refine ⟨vInts (rulesOf rs s), ⟨?_, ?_⟩, q⟩
 ·show (match h.get L.bl[s] with | some (.list vs) => some vs | _ => none) = _
  rw [G.by_ s _ (List.getElem?_eq_getElem hb)]
 ·rw [vInts_length]
  unfold rulesOf
  have := List.length_filter_le (fun i => decide ((rs[i]?.map (·.1)) = some s)) (List.range rs.length)
  rw [List.length_range] at this
  have := G.nrs; unfold room; lia
end
end Mine
end
section
namespace Mine
section
variable {C : CS} {e : Env} {h : MH} {Q : Fl → Env → MH → Prop} {ss : Ss}
theorem sc_assign {x : Vr} {a : E} (q : wE C a e h fun v h1 => wSs C ss (upd e x v) h1 Q) : wSs C (.cons (.assign x a) ss) e h Q := q
theorem sc_for {xs : List Vr} {it : It} {b : Ss} (q : wIt C it e h fun s h1 => ∃ n, wFor (fun e => e) s xs (fun e' _ h K => wSs C b e' h fun fl e' h' => match fl with | .ret v => Q (.ret v) e' h' | _ => K e' h') n 0 e h1 fun e' h' => wSs C ss e' h' Q) :
  wSs C (.cons (.for_ xs it b) ss) e h Q := by
 dsimp only [UF,UG,YA,YB,YC,YD,YE,YF,YG,YH,YI,YJ,YK,YL]; exact q
theorem sc_while {t : T} {b : Ss} (q : ∃ n, wWhile (fun e h K => wT C t e h K) (fun e h K => wSs C b e h fun fl e' h' => match fl with | .ret v => Q (.ret v) e' h' | _ => K e' h') n e h fun e' h' => wSs C ss e' h' Q) :
  wSs C (.cons (.while_ t b) ss) e h Q := by
 dsimp only [UF,UG,YA,YB,YC,YD,YE,YF,YG,YH,YI,YJ,YK,YL]; exact q
theorem sc_ret {a : E} (q : wE C a e h fun v h1 => Q (.ret v) e h1) : wSs C (.cons (.ret a) ss) e h Q := q
end
noncomputable def SubE (F e : Env) : Prop := ∀ x v, F x = some v → e x = some v
theorem SubE.upd {F e : Env} (s : SubE F e) {y : Vr} {w : V} (hy : F y = none) : SubE F (upd e y w) := fun x v hx => by
 have : x ≠ y := fun q => by subst q; rw [hy] at hx; cases hx
 show (if x = y then _ else _) = _
 rw [if_neg this]; exact s x v hx
theorem SubE.nil {e : Env} : SubE env0 e := fun _ _ h => nomatch h
theorem SubE.cons {F e : Env} {x : Vr} {w : V} (s : SubE F e) (q : e x = some w) : SubE (Mine.upd F x w) e := fun y v h => by
 by_cases hy : y = x
 ·subst hy; exact q.trans ((if_pos rfl : Mine.upd F y w y = some w).symm.trans h)
 ·exact s y v ((if_neg hy : Mine.upd F x w y = F y).symm.trans h)
theorem map_at {α β : Type} {f : α → β} {xs : List α} {j : Nat} {v : β} (h : (xs.map f)[j]? = some v) : ∃ x, xs[j]? = some x ∧ f x = v := by
 rw [List.getElem?_map, Option.map_eq_some_iff] at h; exact h
theorem map_at2 {α β γ : Type} {f : α → β} {g : β → γ} {xs : List α} {j : Nat} {x : γ} (h : ((xs.map f).map g)[j]? = some x) : ∃ a, xs[j]? = some a ∧ g (f a) = x := by
 obtain ⟨b, hb, rfl⟩ := map_at h
 obtain ⟨a, ha, rfl⟩ := map_at hb
 exact ⟨a, ha, rfl⟩
theorem vals_at {α : Type} {f : α → V} {xs : List α} {i : Nat} {x : α} (h : xs[i]? = some x) : (xs.map f)[i]? = some (f x) := by rw [List.getElem?_map, h]; rfl
inductive Nul (rs : List Rl) : Nat → Prop
 | mk {r : Rl} : r ∈ rs → (∀ t ∈ r.2, Nul rs t) → Nul rs r.1
noncomputable def usersOf : List Rl → Nat → Nat → List Nat
 | [], _, _ => []
 | r :: rs, k, s => List.replicate (r.2.count s) k ++ usersOf rs (k + 1) s
theorem usersOf_snoc (s : Nat) (r : Rl) : ∀ (rs : List Rl) (k : Nat), usersOf (rs ++ [r]) k s = usersOf rs k s ++ List.replicate (r.2.count s) (k + rs.length)
 | [], k => by simp [usersOf]
 | x :: rs, k => by
  simp only [List.cons_append, usersOf, usersOf_snoc s r rs (k + 1), List.append_assoc, List.length_cons]
  rw [show k + 1 + rs.length = k + (rs.length + 1) by lia]
theorem usersOf_ge (s : Nat) : ∀ (rs : List Rl) (k n : Nat), n ∈ usersOf rs k s → k ≤ n ∧ n < k + rs.length
 | [], k, n, h => by simp [usersOf] at h
 | r :: rs, k, n, h => by
  simp only [usersOf, List.mem_append, List.mem_replicate] at h
  rcases h with ⟨_, rfl⟩ | h
  ·simp
  ·have := usersOf_ge s rs (k + 1) n h; simp only [List.length_cons]; lia
theorem usersOf_count (s : Nat) (rs : List Rl) : ∀ (k i : Nat) (r : Rl), rs[i]? = some r → (usersOf rs k s).count (k + i) = r.2.count s := by
 induction rs with
 | nil => exact fun _ _ _ h => none_ne h
 | cons x rs ih =>
  intro k i r h
  cases i with
  | zero =>
   cases h
   have : (usersOf rs (k + 1) s).count k = 0 := List.count_eq_zero.mpr fun hm => Nat.lt_irrefl _ (usersOf_ge s rs (k + 1) k hm).1
   simp [usersOf, List.count_append, this]
  | succ i =>
   have h2 := ih (k + 1) i r h
   rw [Nat.add_assoc, Nat.add_comm 1 i] at h2
   have : (List.replicate (x.2.count s) k).count (k + (i + 1)) = 0 := List.count_eq_zero.mpr fun hm => by
    have := (List.mem_replicate.mp hm).2; lia
   simp [usersOf, List.count_append, h2, this]
theorem usersOf_length (s : Nat) : ∀ (rs : List Rl) (k : Nat), (∀ r ∈ rs, r.2.length ≤ 8) → (usersOf rs k s).length ≤ 8 * rs.length
 | [], _, _ => by simp [usersOf]
 | r :: rs, k, h => by
  have h1 := h r (.head _)
  have h2 := usersOf_length s rs (k + 1) fun x hx => h x (.tail _ hx)
  have h3 : r.2.count s ≤ r.2.length := List.count_le_length
  simp only [usersOf, List.length_append, List.length_replicate, List.length_cons]; lia
structure SpH (h0 h : MH) (N ns : Nat) (found : List Bool) (lack : List Int) (queue : List Nat) (us : Nat → List Nat) : Prop where
 w0 : Wf h0
 hN : h0.nxt ≤ N
 kp : Kp h0 h
 nxt : N + ns + 4 ≤ h.nxt
 hf : h.get N = some (.list (found.map V.bool))
 hl : h.get (N + 1) = some (.list (lack.map V.int))
 hu : h.get (N + 2 + ns) = some (.list ((List.range ns).map fun s => V.loc (N + 2 + s)))
 hus : ∀ s, s < ns → h.get (N + 2 + s) = some (.list (vInts (us s)))
 hq : h.get (N + 3 + ns) = some (.list (vInts queue))
section
variable {h0 h : MH} {N ns : Nat} {found : List Bool} {lack : List Int} {queue : List Nat} {us : Nat → List Nat}
theorem SpH.setF (S : SpH h0 h N ns found lack queue us) (f' : List Bool) : SpH h0 (h.set N (.list (f'.map V.bool))) N ns f' lack queue us where
 w0 := S.w0
 hN := S.hN
 kp := S.kp.set _ (.inl (S.w0 _ S.hN)) (by have := S.nxt; lia)
 nxt := S.nxt
 hf := get_set ..
 hl := by rw [get_set_ne _ _ (by lia)]; exact S.hl
 hu := by rw [get_set_ne _ _ (by lia)]; exact S.hu
 hus := fun s hs => by rw [get_set_ne _ _ (by lia)]; exact S.hus s hs
 hq := by rw [get_set_ne _ _ (by lia)]; exact S.hq
theorem SpH.setL (S : SpH h0 h N ns found lack queue us) (l' : List Int) : SpH h0 (h.set (N + 1) (.list (l'.map V.int))) N ns found l' queue us where
 w0 := S.w0
 hN := S.hN
 kp := S.kp.set _ (.inl (S.w0 _ (Nat.le_succ_of_le S.hN))) (by have := S.nxt; lia)
 nxt := S.nxt
 hf := by rw [get_set_ne _ _ (by lia)]; exact S.hf
 hl := get_set ..
 hu := by rw [get_set_ne _ _ (by lia)]; exact S.hu
 hus := fun s hs => by rw [get_set_ne _ _ (by lia)]; exact S.hus s hs
 hq := by rw [get_set_ne _ _ (by lia)]; exact S.hq
theorem SpH.setQ (S : SpH h0 h N ns found lack queue us) (q' : List Nat) : SpH h0 (h.set (N + 3 + ns) (.list (vInts q'))) N ns found lack q' us where
 w0 := S.w0
 hN := S.hN
 kp := S.kp.set _ (.inl (S.w0 _ (by have := S.hN; lia))) (by have := S.nxt; lia)
 nxt := S.nxt
 hf := by rw [get_set_ne _ _ (by lia)]; exact S.hf
 hl := by rw [get_set_ne _ _ (by lia)]; exact S.hl
 hu := by rw [get_set_ne _ _ (by lia)]; exact S.hu
 hus := fun s hs => by rw [get_set_ne _ _ (by lia)]; exact S.hus s hs
 hq := get_set ..
theorem SpH.setU (S : SpH h0 h N ns found lack queue us) {s : Nat} (hs : s < ns) (l' : List Nat) : SpH h0 (h.set (N + 2 + s) (.list (vInts l'))) N ns found lack queue (fun k => if k = s then l' else us k) where
 w0 := S.w0
 hN := S.hN
 kp := S.kp.set _ (.inl (S.w0 _ (by have := S.hN; lia))) (by have := S.nxt; lia)
 nxt := S.nxt
 hf := by rw [get_set_ne _ _ (by lia)]; exact S.hf
 hl := by rw [get_set_ne _ _ (by lia)]; exact S.hl
 hu := by rw [get_set_ne _ _ (by lia)]; exact S.hu
 hus := fun k hk => by
  by_cases hks : k = s
  ·subst hks; rw [get_set]; simp
  ·rw [get_set_ne _ _ (by lia), if_neg hks]; exact S.hus k hk
 hq := by rw [get_set_ne _ _ (by lia)]; exact S.hq
end
structure FQ (rs : List Rl) (ns : Nat) (found : List Bool) (queue : List Nat) : Prop where
 len : found.length = ns
 nd : queue.Nodup
 lt : ∀ s ∈ queue, s < ns
 iff : ∀ (s : Nat), found[s]? = some true ↔ s ∈ queue
 nul : ∀ s ∈ queue, Nul rs s
theorem FQ.add {rs : List Rl} {ns : Nat} {found : List Bool} {queue : List Nat} (F : FQ rs ns found queue) {s : Nat} (hs : s < ns) (hn : found[s]? = some false) (hnul : Nul rs s) : FQ rs ns (found.set s true) (queue ++ [s]) where
 len := by rw [List.length_set]; exact F.len
 nd := by
  rw [List.nodup_append]
  refine ⟨F.nd, by simp, fun a ha b hb => ?_⟩
  simp at hb; subst hb
  intro q; subst q
  have := (F.iff a).mpr ha
  rw [hn] at this; cases this
 lt := fun t ht => by
  rcases List.mem_append.mp ht with h | h
  ·exact F.lt t h
  ·simp at h; subst h; exact hs
 iff := fun t => by
  rw [List.mem_append, List.mem_singleton, List.getElem?_set]
  by_cases ht : s = t
  ·subst ht
   simp [F.len, hs]
  ·rw [if_neg ht, F.iff t]
   constructor
   ·exact .inl
   ·rintro (h | h); exact h; exact absurd h.symm ht
 nul := fun t ht => by
  rcases List.mem_append.mp ht with h | h
  ·exact F.nul t h
  ·simp at h; subst h; exact hnul
noncomputable def rest (r : Rl) (D : List Nat) : Nat := (r.2.filter fun s => decide (s ∉ D)).length
theorem rest_snoc (r : Rl) (D : List Nat) (s : Nat) (hs : s ∉ D) : rest r D = rest r (D ++ [s]) + r.2.count s := by
 unfold rest
 induction r.2 with
 | nil => simp
 | cons t ts ih =>
  have e : ∀ t : Nat, decide (t ∉ D ++ [s]) = (decide (t ∉ D) && decide (t ≠ s)) := fun t => by
   rw [← Bool.decide_and]; exact decide_eq_decide.mpr (by simp)
  simp only [List.filter_cons, List.count_cons, e] at ih ⊢
  by_cases ht : t = s
  ·subst ht
   simp [hs] at ih ⊢; lia
  ·by_cases hD : t ∈ D
   ·simp [hD, ht] at ih ⊢; lia
   ·simp [hD, ht] at ih ⊢; lia
end Mine
end
section
namespace Mine
section
variable {h : MH} {g : Nat} {L : Loc} {names : List Nm} {nt : Nat} {rs : List Rl} {n : Nat} {C : CS}
noncomputable def spF (g N ns : Nat) : Env := upd (upd (upd (upd (upd env0 .queue (.loc (N + 3 + ns))) .users (.loc (N + 2 + ns))) .lacking (.loc (N + 1))) .found (.loc N)) .grammar (.loc g)
inductive T1I (h0 : MH) (g N l i ns : Nat) (rs : List Rl) (lack : List Int) (r2 : List Nat) (j : Nat) (e' : Env) (h' : MH) : Prop
 | mk (he : SubE (spF g N ns) e') (hr : e' .rule = some (.loc l)) (hm : e' .missing = some (.int (j : Int)))
  (S : SpH h0 h' N ns (List.replicate ns false) lack [] (fun s => usersOf (rs.take i) 0 s ++ List.replicate ((r2.take j).count s) i))
theorem sp_turn1 {h0 hh : MH} {N : Nat} {e : Env} {lack : List Int} {i l : Nat} {r : Rl} (G : GAt h0 g L names nt rs) (hr : rs[i]? = some r) (hl : L.rl[i]? = some l)
  (S : SpH h0 hh N names.length (List.replicate names.length false) lack [] (usersOf (rs.take i) 0)) (hlk : lack.length ≤ room) (he : SubE (spF g N names.length) e) {K : Env → MH → Prop} {R : V → Env → MH → Prop}
  (hK : ∀ e' h', SubE (spF g N names.length) e' → SpH h0 h' N names.length (List.replicate names.length false) (lack ++ [(r.2.length : Int)]) [] (usersOf (rs.take (i + 1)) 0) → K e' h') :
  wSs C (.cons (.assign .missing (.int 0)) (.cons (.for_ [.symbol] (.seq (.attr (.var .rule) .right)) (.cons (.ite (.not (.val (.sub (.var .found) (.var .symbol)))) (.cons (.assign .missing (.bin .add (.var .missing) (.int 1))) (.cons (.expr (.append (.sub (.var .users) (.var .symbol)) (.attr (.var .rule) .number))) .nil)) .nil) .nil)) (.cons (.expr (.append (.var .lacking) (.var .missing))) .nil)))
   (upd e .rule (.loc l)) hh (fun fl e' h' => match fl with | .ret v => R v e' h' | _ => K e' h') := by
 have G1 := G.kp S.kp
 obtain ⟨fs, q1, q2, q3, q4⟩ := G1.rule i r l hr hl
 have hrl := (G.right r (List.mem_of_getElem? hr))
 have hns := G.nnames
 refine sc_assign ?_
 dsimp only [EA,EB,EC,ED,EE,EF,EG,EH,EI,EJ,EK,EL,EM,EN,EO,EP,EQ,ER,ES,ET,EU,EV,EW,EX,EY,EZ,Ea,Eb,Ec]
 refine sc_for ?_
 dsimp only [UC,UD,UE,EA,EB,EC,ED,EE,EF,EG,EH,EI,EJ,EK,EL,EM,EN,EO,EP,EQ,ER,ES,ET,EU,EV,EW,EX,EY,EZ,Ea,Eb,Ec]
 refine ⟨_, rfl, r_attr q1 rfl q4 ?_⟩
 refine for_seq (vs := (r.2.map fun n : Nat => W.int n).map V.w) (T1I h0 g N l i names.length rs lack r.2) (fun _ _ _ _ => rfl) ?_ ?_ ⟨(he.upd rfl).upd rfl, rfl, rfl, ?_⟩
 ·rintro j e' h' x hx ⟨he', hru, hmi, S'⟩
  obtain ⟨s, hs, rfl⟩ : ∃ s, r.2[j]? = some s ∧ V.int (s : Int) = x := map_at2 (f := fun n : Nat => W.int (n : Int)) (g := V.w) hx
  have hslt : s < names.length := hrl.2 s (List.mem_of_getElem? hs)
  refine ⟨_, rfl, fun K' hK' => ?_⟩
  obtain ⟨fs', q1', q2', q3', q4'⟩ := (G.kp S'.kp).rule i r l hr hl
  dsimp only [UF,UG,YA,YB,YC,YD,YE,YF,YG,YH,YI,YJ,YK,YL,EA,EB,EC,ED,EE,EF,EG,EH,EI,EJ,EK,EL,EM,EN,EO,EP,EQ,ER,ES,ET,EU,EV,EW,EX,EY,EZ,Ea,Eb,Ec,JA,JB,JC,JD,JE,JF,JG]
  refine ⟨_, he'.upd (y := .symbol) rfl .found _ rfl, _, rfl, r_get (v := .bool false) S'.hf (by lia) (by simp [hslt]) ⟨false, rfl, ?_⟩⟩
  simp only [Bool.not_false, if_true]
  refine ⟨_, hmi, ?_⟩
  dsimp only [binop, onI, onW, addW, mulW]
  refine ⟨_, (he'.upd (y := .symbol) rfl).upd (y := .missing) rfl .users _ rfl, _, rfl, r_get (v := .loc (N + 2 + s)) S'.hu (by lia) (by simp [hslt]) ⟨⟨_, _, rfl, S'.hus s hslt⟩, _, hru, r_attr q1' rfl q2' ?_⟩⟩
  refine ⟨_, _, ⟨rfl, S'.hus s hslt, ?_⟩, rfl, hK' _ _ ⟨(he'.upd rfl).upd rfl, hru, ?_, ?_⟩⟩
  ·rw [vInts_length, List.length_append, List.length_replicate]
   have h1 := usersOf_length s (rs.take i) 0 fun x hx => (G.right x (List.mem_of_mem_take hx)).1
   have h2 := List.length_take_le i rs
   have h4 : (r.2.take j).count s ≤ (r.2.take j).length := List.count_le_length
   have h5 := List.length_take_le' j r.2
   have := G.nrs; have := hrl.1
   simp only [room]
   have h6 := List.length_take_le' i rs
   lia
  ·show (if Vr.missing = Vr.missing then _ else _) = _
   rw [if_pos rfl]; congr 2
  ·have := S'.setU hslt (usersOf (rs.take i) 0 s ++ List.replicate ((r.2.take j).count s) i ++ [i])
   have e1 : vInts (usersOf (rs.take i) 0 s ++ List.replicate ((r.2.take j).count s) i) ++ [V.int (i : Int)] = vInts (usersOf (rs.take i) 0 s ++ List.replicate ((r.2.take j).count s) i ++ [i]) := by simp [vInts]
   rw [e1]
   have e2 : (fun k => if k = s then usersOf (rs.take i) 0 s ++ List.replicate ((r.2.take j).count s) i ++ [i] else usersOf (rs.take i) 0 k ++ List.replicate ((r.2.take j).count k) i) =
     fun k => usersOf (rs.take i) 0 k ++ List.replicate ((r.2.take (j + 1)).count k) i := by
    funext k
    rw [List.take_add_one, hs, List.count_append]
    by_cases hk : k = s
    ·subst hk
     rw [if_pos rfl]
     simp [List.replicate_succ', List.append_assoc]
    ·rw [if_neg hk]
     have : ¬ s = k := fun q => hk q.symm
     simp [this]
   rw [e2] at this
   exact this
 ·rintro e' h' ⟨he', hru, hmi, S'⟩
  simp only [List.length_map] at hmi S'
  rw [List.take_length] at S'
  dsimp only [UF,UG,YA,YB,YC,YD,YE,YF,YG,YH,YI,YJ,YK,YL,EA,EB,EC,ED,EE,EF,EG,EH,EI,EJ,EK,EL,EM,EN,EO,EP,EQ,ER,ES,ET,EU,EV,EW,EX,EY,EZ,Ea,Eb,Ec]
  refine ⟨_, he' .lacking _ rfl, ⟨_, _, rfl, S'.hl⟩, _, hmi, _, _, ⟨rfl, S'.hl, by rw [List.length_map]; exact hlk⟩, rfl, hK _ _ he' ?_⟩
  have := S'.setL (lack ++ [(r.2.length : Int)])
  rw [List.map_append] at this
  have e1 : (fun s => usersOf (rs.take i) 0 s ++ List.replicate (r.2.count s) i) = usersOf (rs.take (i + 1)) 0 := by
   funext s
   rw [List.take_add_one, hr]
   show _ = usersOf (rs.take i ++ [r]) 0 s
   rw [usersOf_snoc, Nat.zero_add, List.length_take, Nat.min_eq_left (Nat.le_of_lt (lt_of_get hr))]
  rw [e1] at this
  exact this
 ·simpa using S
end
end Mine
end
section
namespace Mine
section
variable {h : MH} {g : Nat} {L : Loc} {names : List Nm} {nt : Nat} {rs : List Rl} {n : Nat} {C : CS}
theorem found_at {ns : Nat} {found : List Bool} {queue : List Nat} (F : FQ rs ns found queue) {s : Nat} (hs : s < ns) : found[s]? = some (decide (s ∈ queue)) := by
 have hlt : s < found.length := by rw [F.len]; exact hs
 have h1 := F.iff s
 rw [List.getElem?_eq_getElem hlt] at h1 ⊢
 cases hb : found[s] with
 | true => rw [hb] at h1; simp at h1; simp [h1]
 | false => rw [hb] at h1; simp at h1; simp [h1]
theorem sp_mark {h0 hh : MH} {N : Nat} {e : Env} {lack : List Int} {found : List Bool} {queue : List Nat} {us : Nat → List Nat} {s : Nat} {ea : E}
  (S : SpH h0 hh N names.length found lack queue us) (F : FQ rs names.length found queue) (hs : s < names.length) (hq : queue.length ≤ names.length) (hns : names.length ≤ 40) (he : SubE (spF g N names.length) e)
  (hea : ∀ (h' : MH) (Q : V → MH → Prop), Kp h0 h' → Q (.int (s : Int)) h' → wE C ea e h' Q) {P : Fl → Env → MH → Prop} (zero : Prop) [Decidable zero] (hn : zero → Nul rs s) {t : T}
  (ht : ∀ Q : Bool → MH → Prop, Q (decide zero) hh → wT C t e hh Q)
  (hK : ∀ h' found' queue', SpH h0 h' N names.length found' lack queue' us → FQ rs names.length found' queue' → (∃ q, queue' = queue ++ q) → (zero → s ∈ queue') → P .next e h') :
  wS C (.ite (.and t (.not (.val (.sub (.var .found) ea)))) (.cons (.setSub (.var .found) ea (.bool true)) (.cons (.expr (.append (.var .queue) ea)) .nil)) .nil) e hh P := by
 dsimp only [YA,YB,YC,YD,YE,YF,YG,YH,YI,YJ,YK,YL,JA,JB,JC,JD,JE,JF,JG,UF,UG,EA,EB,EC,ED,EE,EF,EG,EH,EI,EJ,EK,EL,EM,EN,EO,EP,EQ,ER,ES,ET,EU,EV,EW,EX,EY,EZ,Ea,Eb,Ec]
 refine ht _ ?_
 by_cases hz : zero
 ·rw [if_pos (by simpa using hz)]
  refine ⟨_, he .found _ rfl, hea _ _ S.kp ?_⟩
  refine r_get S.hf (by lia) (vals_at (found_at F hs)) ⟨_, rfl, ?_⟩
  by_cases hm : s ∈ queue
  ·rw [if_neg (by simpa using hm)]
   exact hK _ _ _ S F ⟨[], by simp⟩ fun _ => hm
  ·rw [if_pos (by simpa using hm)]
   have hfs := found_at F hs
   rw [decide_eq_false hm] at hfs
   refine ⟨_, he .found _ rfl, hea _ _ S.kp ?_⟩
   refine .inl ⟨N, _, s, ⟨rfl, rfl, S.hf, by lia, by unfold small; lia, by simp [F.len]; lia⟩, ?_⟩
   have S2 := S.setF (found.set s true)
   have e1 : (found.map V.bool).set (s : Int).toNat (V.bool true) = (found.set s true).map V.bool := by simp [List.map_set]
   rw [e1]
   refine ⟨_, he .queue _ rfl, ⟨_, _, rfl, S2.hq⟩, hea _ _ S2.kp ⟨_, _, ⟨rfl, S2.hq, by rw [vInts_length]; unfold room; lia⟩, rfl, ?_⟩⟩
   have S3 := S2.setQ (queue ++ [s])
   have e2 : vInts queue ++ [V.int (s : Int)] = vInts (queue ++ [s]) := by simp [vInts]
   rw [e2]
   exact hK _ _ _ S3 (F.add hs hfs (hn hz)) ⟨[s], rfl⟩ fun _ => by simp
 ·rw [if_neg (by simpa using hz)]
  rw [if_neg (by simp)]
  exact hK _ _ _ S F ⟨[], by simp⟩ fun q => absurd q hz
theorem queue_len {ns : Nat} {found : List Bool} {queue : List Nat} (F : FQ rs ns found queue) : queue.length ≤ ns := by
 have := List.Nodup.length_le_of_subset F.nd (l₂ := List.range ns) fun s hs => List.mem_range.mpr (F.lt s hs)
 rwa [List.length_range] at this
theorem sp_turn2 {h0 hh : MH} {N : Nat} {e : Env} {found : List Bool} {queue : List Nat} {us : Nat → List Nat} {i l : Nat} {r : Rl} (G : GAt h0 g L names nt rs) (hr : rs[i]? = some r) (hl : L.rl[i]? = some l)
  (S : SpH h0 hh N names.length found (rs.map fun r => (r.2.length : Int)) queue us) (F : FQ rs names.length found queue) (he : SubE (spF g N names.length) e) {K : Env → MH → Prop} {R : V → Env → MH → Prop}
  (hK : ∀ e' h' found' queue', SubE (spF g N names.length) e' → SpH h0 h' N names.length found' (rs.map fun r => (r.2.length : Int)) queue' us → FQ rs names.length found' queue' → (∃ q, queue' = queue ++ q) → (r.2 = [] → r.1 ∈ queue') → K e' h') :
  wSs C (.cons (.ite (.and (.cmp .eq (.sub (.var .lacking) (.attr (.var .rule) .number)) (.int 0)) (.not (.val (.sub (.var .found) (.attr (.var .rule) .left))))) (.cons (.setSub (.var .found) (.attr (.var .rule) .left) (.bool true)) (.cons (.expr (.append (.var .queue) (.attr (.var .rule) .left))) .nil)) .nil) .nil)
   (upd e .rule (.loc l)) hh (fun fl e' h' => match fl with | .ret v => R v e' h' | _ => K e' h') := by
 have hmem := List.mem_of_getElem? hr
 have hns := G.nnames
 have hi := lt_of_get hr
 have hnr := G.nrs
 refine sp_mark (g := g) (rs := rs) (s := r.1) S F (G.left r hmem).1 (queue_len F) hns (he.upd (y := .rule) rfl) (fun h' Q k q => ?_) (r.2 = []) (fun hz => .mk hmem fun t ht => by rw [hz] at ht; cases ht) (fun Q q => ?_) ?_
 ·obtain ⟨fs, q1, q2, q3, q4⟩ := (G.kp k).rule i r l hr hl
  dsimp only [EA,EB,EC,ED,EE,EF,EG,EH,EI,EJ,EK,EL,EM,EN,EO,EP,EQ,ER,ES,ET,EU,EV,EW,EX,EY,EZ,Ea,Eb,Ec]
  exact ⟨_, rfl, r_attr q1 rfl q3 q⟩
 ·obtain ⟨fs, q1, q2, q3, q4⟩ := (G.kp S.kp).rule i r l hr hl
  dsimp only [JA,JB,JC,JD,JE,JF,JG,EA,EB,EC,ED,EE,EF,EG,EH,EI,EJ,EK,EL,EM,EN,EO,EP,EQ,ER,ES,ET,EU,EV,EW,EX,EY,EZ,Ea,Eb,Ec]
  refine ⟨_, (he.upd (y := .rule) rfl) .lacking _ rfl, _, rfl, r_attr q1 rfl q2 (r_get (v := .int (r.2.length : Int)) S.hl (by lia) (by rw [List.getElem?_map, List.getElem?_map, hr]; rfl) ⟨_, rfl, ?_⟩)⟩
  have : decide ((r.2.length : Int) = 0) = decide (r.2 = []) := decide_eq_decide.mpr (by rw [← List.length_eq_zero_iff]; lia)
  rw [this]; exact q
 ·intro h' f' q' S' F' hq hz
  exact hK _ _ _ _ (he.upd rfl) S' F' hq hz
end
end Mine
end
section
namespace Mine
section
variable {h : MH} {g : Nat} {L : Loc} {names : List Nm} {nt : Nat} {rs : List Rl} {n : Nat} {C : CS}
noncomputable def LK (rs : List Rl) (D c : List Nat) (lack : List Int) : Prop := lack.length = rs.length ∧ ∀ (i : Nat) r, rs[i]? = some r → lack[i]? = some ((rest r D : Int) - (c.count i : Int))
noncomputable def CM (rs : List Rl) (D c queue : List Nat) : Prop := ∀ (i : Nat) r, rs[i]? = some r → (rest r D : Int) - (c.count i : Int) = 0 → r.1 ∈ queue
theorem rest_zero {r : Rl} {D : List Nat} (h : rest r D = 0) : ∀ t ∈ r.2, t ∈ D := fun t ht => by
 unfold rest at h
 rw [List.length_eq_zero_iff, List.filter_eq_nil_iff] at h
 have := h t ht
 simpa using this
noncomputable def body1 : Ss := .cons (.setSub (.var .lacking) (.var .number) (.bin .sub (.sub (.var .lacking) (.var .number)) (.int 1))) (.cons (.assign .left (.attr (.sub (.attr (.var .grammar) .rules) (.var .number)) .left)) (.cons (.ite (.and (.cmp .eq (.sub (.var .lacking) (.var .number)) (.int 0)) (.not (.val (.sub (.var .found) (.var .left))))) (.cons (.setSub (.var .found) (.var .left) (.bool true)) (.cons (.expr (.append (.var .queue) (.var .left))) .nil)) .nil) .nil))
theorem sp_turn3 {h0 hh : MH} {N : Nat} {e : Env} {found : List Bool} {lack : List Int} {queue : List Nat} {D : List Nat} {s j i : Nat} (G : GAt h0 g L names nt rs) (hs : s ∉ D) (hD : ∀ t ∈ D ++ [s], t ∈ queue) (hj : (usersOf rs 0 s)[j]? = some i)
  (S : SpH h0 hh N names.length found lack queue (usersOf rs 0)) (F : FQ rs names.length found queue) (hL : LK rs D ((usersOf rs 0 s).take j) lack) (hC : CM rs D ((usersOf rs 0 s).take j) queue) (he : SubE (spF g N names.length) e) {at_ : Nat} (hat : e .at_ = some (.int (at_ : Int)))
  {K : Env → MH → Prop} {R : V → Env → MH → Prop}
  (hK : ∀ e' h' found' lack' queue', SubE (spF g N names.length) e' → e' .at_ = some (.int (at_ : Int)) → SpH h0 h' N names.length found' lack' queue' (usersOf rs 0) → FQ rs names.length found' queue' → (∃ q, queue' = queue ++ q) →
   LK rs D ((usersOf rs 0 s).take (j + 1)) lack' → CM rs D ((usersOf rs 0 s).take (j + 1)) queue' → K e' h') :
  wSs C body1 (upd e .number (.int (i : Int))) hh (fun fl e' h' => match fl with | .ret v => R v e' h' | _ => K e' h') := by
 have hi : i < rs.length := by have := (usersOf_ge s rs 0 i (List.mem_of_getElem? hj)).2; lia
 have hr : rs[i]? = some rs[i] := List.getElem?_eq_getElem hi
 have hns := G.nnames
 have hnr := G.nrs
 have he1 := he.upd (y := .number) (w := .int (i : Int)) rfl
 have hlk := hL.2 i _ hr
 have htk : (usersOf rs 0 s).take (j + 1) = (usersOf rs 0 s).take j ++ [i] := by rw [List.take_add_one, hj]; rfl
 have hz : ∀ k : Nat, ((usersOf rs 0 s).take (j + 1)).count k = ((usersOf rs 0 s).take j).count k + (if k = i then 1 else 0) := fun k => by
  rw [htk, List.count_append]
  by_cases hk : k = i
  ·subst hk; simp
  ·rw [if_neg hk]; have : ¬ i = k := fun q => hk q.symm
   simp [this]
 have hL' : LK rs D ((usersOf rs 0 s).take (j + 1)) (lack.set i ((rest rs[i] D : Int) - (((usersOf rs 0 s).take j).count i : Int) - 1)) := by
  refine ⟨by rw [List.length_set]; exact hL.1, fun k r hk => ?_⟩
  rw [hz, List.getElem?_set]
  by_cases hki : i = k
  ·subst hki
   rw [hr] at hk; cases hk
   rw [if_pos rfl, if_pos (by rw [hL.1]; exact hi), if_pos rfl]
   congr 1; push_cast; lia
  ·rw [if_neg hki, hL.2 k r hk, if_neg fun q => hki q.symm]; simp
 obtain ⟨l, hl, fs, q1, q2, q3, q4⟩ := G_rule (G.kp S.kp) hr
 unfold body1
 dsimp only [UF,UG,EA,EB,EC,ED,EE,EF,EG,EH,EI,EJ,EK,EL,EM,EN,EO,EP,EQ,ER,ES,ET,EU,EV,EW,EX,EY,EZ,Ea,Eb,Ec]
 rw [show wS C (.setSub (.var .lacking) (.var .number) (.bin .sub (.sub (.var .lacking) (.var .number)) (.int 1))) = _ from rfl]
 dsimp only [YA,YB,YC,YD,YE,YF,YG,YH,YI,YJ,YK,YL,EA,EB,EC,ED,EE,EF,EG,EH,EI,EJ,EK,EL,EM,EN,EO,EP,EQ,ER,ES,ET,EU,EV,EW,EX,EY,EZ,Ea,Eb,Ec]
 refine ⟨_, he1 .lacking _ rfl, _, rfl, r_get (v := .int ((rest rs[i] D : Int) - (((usersOf rs 0 s).take j).count i : Int))) S.hl (by lia) (by rw [List.getElem?_map, hlk]; rfl) ?_⟩
 refine ⟨_, he1 .lacking _ rfl, _, rfl, .inl ⟨_, _, i, ⟨rfl, rfl, S.hl, by lia, by unfold small; lia, by rw [List.length_map, hL.1]; lia⟩, ?_⟩⟩
 have S2 := S.setL (lack.set i ((rest rs[i] D : Int) - (((usersOf rs 0 s).take j).count i : Int) - 1))
 have e1 : (lack.map V.int).set (i : Int).toNat (V.int ((rest rs[i] D : Int) - (((usersOf rs 0 s).take j).count i : Int) - 1)) = (lack.set i ((rest rs[i] D : Int) - (((usersOf rs 0 s).take j).count i : Int) - 1)).map V.int := by simp [List.map_set]
 rw [e1]
 obtain ⟨l, hl, fs, q1, q2, q3, q4⟩ := G_rule (G.kp S2.kp) hr
 refine ⟨_, he1 .grammar _ rfl, r_attr (G.kp S2.kp).at_ rfl (G.kp S2.kp).frules ⟨_, rfl, r_get (v := .loc l) (G.kp S2.kp).hrules (by lia) (vals_at hl) (r_attr q1 rfl q3 ?_)⟩⟩
 have he2 := he1.upd (y := .left) (w := .int (rs[i].1 : Int)) rfl
 have hmem : rs[i] ∈ rs := List.getElem_mem hi
 have hcnt : ((usersOf rs 0 s).take (j + 1)).count i ≤ rs[i].2.count s := by
  have h1 := usersOf_count s rs 0 i _ hr
  rw [Nat.zero_add] at h1
  rw [← h1]
  exact List.Sublist.count_le _ (List.take_sublist _ _)
 refine sp_mark (g := g) (rs := rs) (s := rs[i].1) (ea := .var .left) (t := .cmp .eq (.sub (.var .lacking) (.var .number)) (.int 0)) S2 F (G.left _ hmem).1 (queue_len F) hns he2
  (fun h' Q k q => ⟨_, rfl, q⟩) ((rest rs[i] D : Int) - (((usersOf rs 0 s).take (j + 1)).count i : Int) = 0) (fun hzero => ?_) (fun Q q => ?_) ?_
 ·refine .mk hmem fun t ht => F.nul t (hD t ?_)
  have h2 := rest_snoc rs[i] D s hs
  exact rest_zero (by lia) t ht
 ·dsimp only [JA,JB,JC,JD,JE,JF,JG,EA,EB,EC,ED,EE,EF,EG,EH,EI,EJ,EK,EL,EM,EN,EO,EP,EQ,ER,ES,ET,EU,EV,EW,EX,EY,EZ,Ea,Eb,Ec]
  refine ⟨_, he2 .lacking _ rfl, _, rfl, r_get (v := .int ((rest rs[i] D : Int) - (((usersOf rs 0 s).take j).count i : Int) - 1)) S2.hl (by lia) (by rw [List.getElem?_map, List.getElem?_set, if_pos rfl, if_pos (by rw [hL.1]; exact hi)]; rfl) ⟨_, rfl, ?_⟩⟩
  have e3 : decide ((rest rs[i] D : Int) - (((usersOf rs 0 s).take j).count i : Int) - 1 = 0) = decide ((rest rs[i] D : Int) - (((usersOf rs 0 s).take (j + 1)).count i : Int) = 0) :=
   decide_eq_decide.mpr (by rw [hz, if_pos rfl]; push_cast; lia)
  rw [e3]; exact q
 ·intro h' f' q' S' F' hq hzz
  refine hK _ h' f' _ q' he2 hat S' F' hq hL' fun k r hk hk0 => ?_
  by_cases hki : k = i
  ·subst hki
   rw [hr] at hk; cases hk
   exact hzz hk0
  ·obtain ⟨q, rfl⟩ := hq
   refine List.mem_append_left _ (hC k r hk ?_)
   rw [hz, if_neg hki] at hk0; simpa using hk0
end
end Mine
end
section
namespace Mine
section
variable {h : MH} {g : Nat} {L : Loc} {names : List Nm} {nt : Nat} {rs : List Rl} {n : Nat} {C : CS}
noncomputable def NulL (rs : List Rl) (ns : Nat) (found : List Bool) : Prop := found.length = ns ∧ ∀ s : Nat, found[s]? = some true ↔ Nul rs s
theorem rest_nil (r : Rl) : rest r [] = r.2.length := by
 unfold rest; rw [List.filter_eq_self.mpr (by simp)]
inductive SpA (h : MH) (g : Nat) (names : List Nm) (rs : List Rl) (i : Nat) (e' : Env) (h' : MH) : Prop
 | mk (he : SubE (spF g h.nxt names.length) e') (S : SpH h h' h.nxt names.length (List.replicate names.length false) ((rs.take i).map fun r => (r.2.length : Int)) [] (usersOf (rs.take i) 0))
inductive SpB (h : MH) (g : Nat) (names : List Nm) (rs : List Rl) (i : Nat) (e2 : Env) (h2 : MH) : Prop
 | mk (he : SubE (spF g h.nxt names.length) e2) (found : List Bool) (queue : List Nat) (S : SpH h h2 h.nxt names.length found (rs.map fun r => (r.2.length : Int)) queue (usersOf rs 0)) (F : FQ rs names.length found queue)
  (hq : ∀ (k : Nat) r, k < i → rs[k]? = some r → r.2 = [] → r.1 ∈ queue)
inductive SpC (h : MH) (g : Nat) (names : List Nm) (rs : List Rl) (m : Nat) (e3 : Env) (h3 : MH) : Prop
 | mk (at_ : Nat) (found : List Bool) (lack : List Int) (queue : List Nat) (hm : m = names.length - at_) (he : SubE (spF g h.nxt names.length) e3) (ha : e3 .at_ = some (.int (at_ : Int))) (hle : at_ ≤ queue.length)
  (S : SpH h h3 h.nxt names.length found lack queue (usersOf rs 0)) (F : FQ rs names.length found queue) (hL : LK rs (queue.take at_) [] lack) (hC : CM rs (queue.take at_) [] queue)
inductive SpD (h : MH) (g : Nat) (names : List Nm) (rs : List Rl) (queue D us : List Nat) (at_ : Nat) (j : Nat) (e4 : Env) (h4 : MH) : Prop
 | mk (he : SubE (spF g h.nxt names.length) e4) (ha : e4 .at_ = some (.int (at_ : Int))) (found' : List Bool) (lack' : List Int) (queue' : List Nat) (hq : ∃ q, queue' = queue ++ q)
  (S : SpH h h4 h.nxt names.length found' lack' queue' (usersOf rs 0)) (F : FQ rs names.length found' queue') (hL : LK rs D (us.take j) lack') (hC : CM rs D (us.take j) queue')
theorem sp_spread {kn : Nat} {Q : V → MH → Prop} (w : Wf h) (G : GAt h g L names nt rs) (hk : h.get kn = some (.list ((List.replicate names.length false).map V.bool)))
  (q : ∀ h' N found, Kp h h' → h'.get N = some (.list (found.map V.bool)) → NulL rs names.length found → Q (.loc N) h') : CL prog (n + 1) .spread [.loc g, .loc kn] h Q := by
 have hns := G.nnames
 have hnr := G.nrs
 refine ⟨_, rfl, ?_⟩
 show wSs (CL prog n) body_spread _ h _
 unfold body_spread
 refine sc_assign ?_
 dsimp only [EA,EB,EC,ED,EE,EF,EG,EH,EI,EJ,EK,EL,EM,EN,EO,EP,EQ,ER,ES,ET,EU,EV,EW,EX,EY,EZ,Ea,Eb,Ec]
 refine ⟨_, rfl, (List.replicate names.length false).map V.bool, ⟨by simp only [items, hk], by simp [room]; lia⟩, ?_⟩
 refine sc_assign ?_
 dsimp only [EA,EB,EC,ED,EE,EF,EG,EH,EI,EJ,EK,EL,EM,EN,EO,EP,EQ,ER,ES,ET,EU,EV,EW,EX,EY,EZ,Ea,Eb,Ec,UA,UB]
 refine ⟨by simp, ?_⟩
 have k0 : Kp h h := Ke.refl w
 have k1 := k0.new (.list ((List.replicate names.length false).map V.bool))
 have k2 := k1.new (.list [])
 have hN : h.nxt ≤ h.nxt := Nat.le_refl _
 have g1 : ((h.new (.list ((List.replicate names.length false).map V.bool))).new (.list [])).get h.nxt = some (.list ((List.replicate names.length false).map V.bool)) := get_new_of k1.wf _ (get_new ..)
 have g2 : ((h.new (.list ((List.replicate names.length false).map V.bool))).new (.list [])).get (h.nxt + 1) = some (.list []) := get_new ..
 have nx2 : ((h.new (.list ((List.replicate names.length false).map V.bool))).new (.list [])).nxt = h.nxt + 2 := rfl
 generalize hh2 : (h.new (.list ((List.replicate names.length false).map V.bool))).new (.list []) = h2 at k2 g1 g2 nx2
 have ea : (h.new (.list ((List.replicate names.length false).map V.bool))).nxt = h.nxt + 1 := rfl
 rw [ea]
 refine sc_assign ?_
 dsimp only [EA,EB,EC,ED,EE,EF,EG,EH,EI,EJ,EK,EL,EM,EN,EO,EP,EQ,ER,ES,ET,EU,EV,EW,EX,EY,EZ,Ea,Eb,Ec,UA,UB,UC,UD,UE,JA,JB,JC,JD,JE,JF,JG]
 refine ⟨_, rfl, ?_⟩
 refine for_seq (vs := (List.replicate names.length false).map V.bool) (fun i acc hh => acc = (List.range i).map (fun s => V.loc (h.nxt + 2 + s)) ∧ hh.nxt = h.nxt + 2 + i ∧ Kp h hh ∧
  hh.get h.nxt = some (.list ((List.replicate names.length false).map V.bool)) ∧ hh.get (h.nxt + 1) = some (.list []) ∧ ∀ s, s < i → hh.get (h.nxt + 2 + s) = some (.list [])) ?_ ?_ ?_ ⟨rfl, nx2, k2, g1, g2, fun s hs => absurd hs (Nat.not_lt_zero _)⟩
 ·rintro i acc hh ⟨_, _, _, a, _⟩
  simp only [items, a]
 ·rintro i acc hh x hx ⟨ha, hnx, hkp, a1, a2, a3⟩
  have hi := lt_of_get hx
  rw [List.length_map, List.length_replicate] at hi
  refine ⟨_, rfl, fun K hK => ?_⟩
  simp only [if_true]
  refine ⟨by simp, by rw [ha]; simp [room]; lia, hK _ _ ⟨?_, ?_, hkp.new _, get_new_of hkp.wf _ a1, get_new_of hkp.wf _ a2, fun s hs => ?_⟩⟩
  ·rw [ha, List.range_succ, List.map_append, hnx]; rfl
  ·show hh.nxt + 1 = _; lia
  ·by_cases hsi : s = i
   ·subst hsi; rw [← hnx]; exact get_new ..
   ·exact get_new_of hkp.wf _ (a3 s (by lia))
 ·rintro acc hh ⟨rfl, hnx, hkp, a1, a2, a3⟩
  rw [List.length_map, List.length_replicate] at hnx a3 ⊢
  refine sc_assign ?_
  dsimp only [EA,EB,EC,ED,EE,EF,EG,EH,EI,EJ,EK,EL,EM,EN,EO,EP,EQ,ER,ES,ET,EU,EV,EW,EX,EY,EZ,Ea,Eb,Ec,UA,UB]
  refine ⟨by simp, ?_⟩
  have k3 := hkp.new (.list ((List.range names.length).map fun s => V.loc (h.nxt + 2 + s)))
  have k4 := k3.new (.list [])
  have S : SpH h ((hh.new (.list ((List.range names.length).map fun s => V.loc (h.nxt + 2 + s)))).new (.list [])) h.nxt names.length (List.replicate names.length false) [] [] (usersOf (rs.take 0) 0) := by
   refine ⟨w, hN, k4, ?_, get_new_of k3.wf _ (get_new_of hkp.wf _ a1), get_new_of k3.wf _ (get_new_of hkp.wf _ a2), get_new_of k3.wf _ ?_, fun s hs => get_new_of k3.wf _ (get_new_of hkp.wf _ (a3 s hs)), ?_⟩
   ·show h.nxt + names.length + 4 ≤ hh.nxt + 1 + 1; lia
   ·rw [← hnx]; exact get_new ..
   ·rw [show h.nxt + 3 + names.length = (hh.new (.list ((List.range names.length).map fun s => V.loc (h.nxt + 2 + s)))).nxt by show _ = hh.nxt + 1; lia]
    exact get_new ..
  have he : SubE (spF g h.nxt names.length) (upd (upd (upd (upd (upd (upd env0 .known (.loc kn)) .grammar (.loc g)) .found (.loc h.nxt)) .lacking (.loc (h.nxt + 1))) .users (.loc hh.nxt)) .queue (.loc (hh.new (.list ((List.range names.length).map fun s => V.loc (h.nxt + 2 + s)))).nxt)) := by
   have hq : (hh.new (.list ((List.range names.length).map fun s => V.loc (h.nxt + 2 + s)))).nxt = h.nxt + 3 + names.length := by show hh.nxt + 1 = _; lia
   exact .cons (.cons (.cons (.cons (.cons .nil (congrArg (fun k => some (V.loc k)) hq)) (congrArg (fun k => some (V.loc k)) hnx)) rfl) rfl) rfl
  generalize (hh.new (.list ((List.range names.length).map fun s => V.loc (h.nxt + 2 + s)))).new (.list []) = h4 at S
  refine sc_for ?_
  dsimp only [UC,UD,UE,EA,EB,EC,ED,EE,EF,EG,EH,EI,EJ,EK,EL,EM,EN,EO,EP,EQ,ER,ES,ET,EU,EV,EW,EX,EY,EZ,Ea,Eb,Ec]
  refine ⟨_, he .grammar _ rfl, r_attr (G.kp S.kp).at_ rfl (G.kp S.kp).frules ?_⟩
  refine for_seq (vs := L.rl.map V.loc) (SpA h g names rs) ?_ ?_ ?_ ⟨he, S⟩
  ·rintro i e' h' ⟨_, S'⟩
   simp only [items, (G.kp S'.kp).hrules]
  ·rintro i e' h' x hx ⟨he', S'⟩
   obtain ⟨l, hl, rfl⟩ : ∃ l, L.rl[i]? = some l ∧ V.loc l = x := map_at hx
   have hi : i < rs.length := by rw [← G.nrules]; exact lt_of_get hl
   have hr : rs[i]? = some rs[i] := List.getElem?_eq_getElem hi
   refine ⟨_, rfl, fun K hK => ?_⟩
   refine sp_turn1 G hr hl S' (by rw [List.length_map]; have := List.length_take_le' i rs; simp only [room]; lia) he' fun e2 h2 he2 S2 => hK _ _ ⟨he2, ?_⟩
   rw [show ((rs.take (i + 1)).map fun r : Rl => (r.2.length : Int)) = ((rs.take i).map fun r : Rl => (r.2.length : Int)) ++ [(rs[i].2.length : Int)] by rw [List.take_add_one, hr, List.map_append]; rfl]
   exact S2
  ·rintro e' h' ⟨he', S'⟩
   rw [List.length_map, G.nrules, List.take_length] at S'
   have F0 : FQ rs names.length (List.replicate names.length false) [] := ⟨by simp, List.nodup_nil, fun _ hs => by simp at hs, fun s => by simp [List.getElem?_replicate], fun _ hs => by simp at hs⟩
   refine sc_for ?_
   dsimp only [UC,UD,UE,EA,EB,EC,ED,EE,EF,EG,EH,EI,EJ,EK,EL,EM,EN,EO,EP,EQ,ER,ES,ET,EU,EV,EW,EX,EY,EZ,Ea,Eb,Ec]
   refine ⟨_, he' .grammar _ rfl, r_attr (G.kp S'.kp).at_ rfl (G.kp S'.kp).frules ?_⟩
   refine for_seq (vs := L.rl.map V.loc) (SpB h g names rs) ?_ ?_ ?_ ⟨he', _, _, S', F0, fun k r hk => absurd hk (Nat.not_lt_zero _)⟩
   ·rintro i e2 h2 ⟨_, found, queue, S2, _⟩
    simp only [items, (G.kp S2.kp).hrules]
   ·rintro i e2 h2 x hx ⟨he2, found, queue, S2, F2, hC2⟩
    obtain ⟨l, hl, rfl⟩ : ∃ l, L.rl[i]? = some l ∧ V.loc l = x := map_at hx
    have hi : i < rs.length := by rw [← G.nrules]; exact lt_of_get hl
    have hr : rs[i]? = some rs[i] := List.getElem?_eq_getElem hi
    refine ⟨_, rfl, fun K hK => ?_⟩
    refine sp_turn2 G hr hl S2 F2 he2 fun e3 h3 f3 q3 he3 S3 F3 hq hz => hK _ _ ⟨he3, f3, q3, S3, F3, fun k r hk hkr hkz => ?_⟩
    by_cases hki : k = i
    ·subst hki; rw [hr] at hkr; cases hkr; exact hz hkz
    ·obtain ⟨q', rfl⟩ := hq
     exact List.mem_append_left _ (hC2 k r (by lia) hkr hkz)
   ·rintro e2 h2 ⟨he2, found, queue, S2, F2, hC2⟩
    rw [List.length_map, G.nrules] at hC2
    refine sc_assign ?_
    dsimp only [EA,EB,EC,ED,EE,EF,EG,EH,EI,EJ,EK,EL,EM,EN,EO,EP,EQ,ER,ES,ET,EU,EV,EW,EX,EY,EZ,Ea,Eb,Ec]
    refine sc_while ?_
    refine while_inv (SpC h g names rs) ?_ ⟨0, found, _, queue, rfl, he2.upd rfl, rfl, Nat.zero_le _, S2, F2, ?_, ?_⟩
    ·rintro m e3 h3 ⟨at_, found, lack, queue, rfl, he3, hat, hle, S3, F3, hL3, hC3⟩ K hK
     dsimp only [JA,JB,JC,JD,JE,JF,JG,EA,EB,EC,ED,EE,EF,EG,EH,EI,EJ,EK,EL,EM,EN,EO,EP,EQ,ER,ES,ET,EU,EV,EW,EX,EY,EZ,Ea,Eb,Ec]
     refine ⟨_, hat, _, he3 .queue _ rfl, r_lenL S3.hq (by have := queue_len F3; rw [vInts_length]; simp only [room]; lia) ?_⟩
     rw [vInts_length]
     by_cases hlt : at_ < queue.length
     ·refine (if_pos (c := decide ((at_ : Int) < (queue.length : Int)) = true) (by simpa using hlt)).mpr ?_
      have hs : queue[at_]? = some queue[at_] := List.getElem?_eq_getElem hlt
      have hslt := F3.lt _ (List.getElem_mem hlt)
      have hnm : queue[at_] ∉ queue.take at_ := fun hm => by
       have hn := F3.nd
       rw [← List.take_append_drop at_ queue, List.nodup_append] at hn
       exact hn.2.2 _ hm queue[at_] (List.mem_drop_iff_getElem.mpr ⟨0, by lia, by simp⟩) rfl
      have hql := queue_len F3
      refine sc_for ?_
      dsimp only [UC,UD,UE,EA,EB,EC,ED,EE,EF,EG,EH,EI,EJ,EK,EL,EM,EN,EO,EP,EQ,ER,ES,ET,EU,EV,EW,EX,EY,EZ,Ea,Eb,Ec]
      refine ⟨_, he3 .users _ rfl, _, he3 .queue _ rfl, _, hat, r_get S3.hq (by lia) (vInts_at hs) (r_get (v := .loc (h.nxt + 2 + queue[at_])) S3.hu (by lia) (by simp [hslt]) ?_)⟩
      have hpre : ∀ q : List Nat, (queue ++ q).take at_ = queue.take at_ := fun q => by rw [List.take_append_of_le_length hle]
      refine for_seq (vs := vInts (usersOf rs 0 queue[at_])) (SpD h g names rs queue (queue.take at_) (usersOf rs 0 queue[at_]) at_) ?_ ?_ ?_
       ⟨he3, hat, found, lack, queue, ⟨[], by simp⟩, S3, F3, hL3, hC3⟩
      ·rintro j e4 h4 ⟨_, _, f', l', q', _, S4, _⟩
       simp only [items, S4.hus _ hslt]
      ·rintro j e4 h4 x hx ⟨he4, hat4, f', l', q', ⟨q'', rfl⟩, S4, F4, hL4, hC4⟩
       obtain ⟨i, hi, rfl⟩ : ∃ i, (usersOf rs 0 queue[at_])[j]? = some i ∧ V.int (i : Int) = x := map_at hx
       refine ⟨_, rfl, fun K' hK' => ?_⟩
       refine sp_turn3 G hnm (fun t ht => ?_) hi S4 F4 hL4 hC4 he4 hat4 fun e5 h5 f5 l5 q5 he5 hat5 S5 F5 hq5 hL5 hC5 => hK' _ _ ⟨he5, hat5, f5, l5, q5, ?_, S5, F5, hL5, hC5⟩
       ·rcases List.mem_append.mp ht with ht | ht
        ·exact List.mem_append_left _ (List.mem_of_mem_take ht)
        ·simp at ht; subst ht; exact List.mem_append_left _ (List.getElem_mem hlt)
       ·obtain ⟨q6, rfl⟩ := hq5
        exact ⟨q'' ++ q6, by rw [List.append_assoc]⟩
      ·rintro e4 h4 ⟨he4, hat4, f', l', q', ⟨q'', rfl⟩, S4, F4, hL4, hC4⟩
       rw [vInts_length, List.take_length] at hL4 hC4
       refine sc_assign ?_
       dsimp only [EA,EB,EC,ED,EE,EF,EG,EH,EI,EJ,EK,EL,EM,EN,EO,EP,EQ,ER,ES,ET,EU,EV,EW,EX,EY,EZ,Ea,Eb,Ec,UF,UG]
       refine ⟨_, hat4, ?_⟩
       dsimp only [binop, onI, onW, addW, mulW]
       have hq4 := queue_len F4
       rw [List.length_append] at hq4
       have hD : (queue ++ q'').take (at_ + 1) = queue.take at_ ++ [queue[at_]] := by
        rw [List.take_append_of_le_length (by lia), List.take_add_one, hs]; rfl
       have hconv : ∀ (i : Nat) r, rs[i]? = some r → (rest r (queue.take at_) : Int) - ((usersOf rs 0 queue[at_]).count i : Int) = (rest r ((queue ++ q'').take (at_ + 1)) : Int) - (([] : List Nat).count i : Int) := fun i r hr => by
        have h1 := rest_snoc r (queue.take at_) queue[at_] hnm
        have h2 := usersOf_count queue[at_] rs 0 i r hr
        rw [Nat.zero_add] at h2
        rw [hD, h2]
        simp only [List.count_nil]
        lia
       refine hK (names.length - (at_ + 1)) _ _ (by lia) ⟨at_ + 1, f', l', queue ++ q'', rfl, he4.upd rfl, ?_, ?_, S4, F4, ⟨hL4.1, fun i r hr => ?_⟩, fun i r hr hz => ?_⟩
       ·show some (V.int ((at_ : Int) + 1)) = _
        congr 2
       ·rw [List.length_append]; lia
       ·rw [← hconv i r hr]; exact hL4.2 i r hr
       ·exact hC4 i r hr (by rw [hconv i r hr]; exact hz)
     ·refine (if_neg (c := decide ((at_ : Int) < (queue.length : Int)) = true) (by simpa using hlt)).mpr ?_
      refine sc_ret ?_
      dsimp only [EA,EB,EC,ED,EE,EF,EG,EH,EI,EJ,EK,EL,EM,EN,EO,EP,EQ,ER,ES,ET,EU,EV,EW,EX,EY,EZ,Ea,Eb,Ec]
      refine ⟨_, he3 .found _ rfl, q _ _ _ S3.kp S3.hf ⟨F3.len, fun s => (F3.iff s).trans ⟨F3.nul s, fun hn => ?_⟩⟩⟩
      have hta : queue.take at_ = queue := List.take_of_length_le (by lia)
      rw [hta] at hC3
      clear hta hL3
      induction hn with
      | mk hr ht ih =>
       rename_i r
       obtain ⟨i, hi, hri⟩ := List.getElem_of_mem hr
       refine hC3 i r (by rw [List.getElem?_eq_getElem hi, hri]) ?_
       have : rest r queue = 0 := by
        unfold rest
        rw [List.length_eq_zero_iff, List.filter_eq_nil_iff]
        intro t ht'
        simpa using ih t ht'
       simp [this]
    ·refine ⟨by simp, fun i r hr => ?_⟩
     rw [List.getElem?_map, hr, List.take_zero, rest_nil]
     simp
    ·intro i r hr hz
     refine hC2 i r (lt_of_get hr) hr ?_
     rw [List.take_zero, rest_nil] at hz
     simp only [List.count_nil] at hz
     exact List.length_eq_zero_iff.mp (by lia)
theorem sp_nullable {Q : V → MH → Prop} (w : Wf h) (G : GAt h g L names nt rs)
  (q : ∀ h' N found, Kp h h' → h'.get N = some (.list (found.map V.bool)) → NulL rs names.length found → Q (.loc N) h') : CL prog (n + 2) .nullable [.loc g] h Q := by
 have hns := G.nnames
 refine ⟨_, rfl, ?_⟩
 dsimp only [prog,body_nullable,UF,UG,YA,YB,YC,YD,YE,YF,YG,YH,YI,YJ,YK,YL,EA,EB,EC,ED,EE,EF,EG,EH,EI,EJ,EK,EL,EM,EN,EO,EP,EQ,ER,ES,ET,EU,EV,EW,EX,EY,EZ,Ea,Eb,Ec,UA,UB]
 refine ⟨_, rfl, by simp, _, rfl, ⟨_, _, rfl, get_new_of w _ G.at_, G.nonum⟩, ?_⟩
 have k1 : Kp h (h.new (.list [V.bool false])) := (Ke.refl w).new _
 refine sp_symbol_count (G.kp k1) ⟨V.bool false, ⟨get_new .., by lia, by lia⟩, ?_⟩
 have k2 := k1.new (.list (List.replicate (names.length : Int).toNat (V.bool false)))
 refine sp_spread k2.wf (G.kp k2) ?_ fun h' N found k hN hF => q h' N found (k2.trans k) hN hF
 rw [get_new]
 simp
end
end Mine
end
section
namespace Mine
noncomputable def ahead {α : Type} (f : α → Bool) : List α → List α × Bool
 | [] => ([], true)
 | x :: xs => if f x = true then (x :: (ahead f xs).1, (ahead f xs).2) else ([x], false)
theorem ahead_all {α : Type} {f : α → Bool} : ∀ {xs : List α}, (∀ x ∈ xs, f x = true) → ahead f xs = (xs, true)
 | [], _ => rfl
 | x :: xs, h => by
  unfold ahead
  rw [if_pos (h x (.head _)), ahead_all fun y hy => h y (.tail _ hy)]
theorem ahead_stop {α : Type} {f : α → Bool} {xs ys : List α} {x : α} (h : ∀ x ∈ xs, f x = true) (hx : f x = false) : ahead f (xs ++ x :: ys) = (xs ++ [x], false) := by
 induction xs with
 | nil => unfold ahead; simp [hx]
 | cons y xs ih =>
  show ahead f (y :: (xs ++ x :: ys)) = _
  unfold ahead
  rw [if_pos (h y (.head _)), ih fun z hz => h z (.tail _ hz)]; rfl
noncomputable def orMask (masks : List Nat) (ss : List Nat) : Nat := ss.foldl (fun m s => m ||| masks.getD s 0) 0
theorem orFold_bit (masks : List Nat) (b : Nat) : ∀ (ss : List Nat) (m : Nat), (ss.foldl (fun m s => m ||| masks.getD s 0) m).testBit b = true ↔ m.testBit b = true ∨ ∃ s ∈ ss, (masks.getD s 0).testBit b = true
 | [], m => by simp
 | s :: ss, m => by
  rw [List.foldl_cons, orFold_bit masks b ss, Nat.testBit_or, Bool.or_eq_true]
  simp only [List.mem_cons, exists_eq_or_imp, or_assoc]
theorem orMask_bit (masks ss : List Nat) (b : Nat) : (orMask masks ss).testBit b = true ↔ ∃ s ∈ ss, (masks.getD s 0).testBit b = true := by
 unfold orMask; rw [orFold_bit]; simp
theorem orMask_snoc (masks ss : List Nat) (s : Nat) : orMask masks (ss ++ [s]) = orMask masks ss ||| masks.getD s 0 := by simp [orMask]
section
variable {h : MH} {g : Nat} {L : Loc} {names : List Nm} {nt : Nat} {rs : List Rl} {n : Nat} {C : CS}
noncomputable def nulB (found : List Bool) (s : Nat) : Bool := found.getD s false
inductive FoI (h : MH) (nl fl : Nat) (found : List Bool) (masks ss : List Nat) (j : Nat) (e' : Env) (h' : MH) : Prop
 | mk (hh : h' = h) (e1 : e' .nullables = some (.loc nl)) (e2 : e' .firsts = some (.loc fl)) (e3 : e' .mask = some (.int ((orMask masks (ss.take j) : Nat) : Int))) (hs : ∀ s ∈ ss.take j, nulB found s = true)
theorem sp_first_of {ss : List Nat} {nl fl : Nat} {found : List Bool} {masks : List Nat} {Q : V → MH → Prop} (h1 : h.get nl = some (.list (found.map V.bool))) (h2 : h.get fl = some (.list (vInts masks)))
  (hf : ∀ s ∈ ss, s < found.length) (hm : ∀ s ∈ ss, s < masks.length) (hb : found.length ≤ 1000)
  (q : Q (.tup [.int ((orMask masks (ahead (nulB found) ss).1 : Nat) : Int), .bool (ahead (nulB found) ss).2]) h) : CL prog (n + 1) .first_of [.tup (ss.map fun s : Nat => W.int (s : Int)), .loc nl, .loc fl] h Q := by
 refine ⟨_, rfl, ?_⟩
 show wSs (CL prog n) body_first_of _ h _
 unfold body_first_of
 refine sc_assign ?_
 dsimp only [EA,EB,EC,ED,EE,EF,EG,EH,EI,EJ,EK,EL,EM,EN,EO,EP,EQ,ER,ES,ET,EU,EV,EW,EX,EY,EZ,Ea,Eb,Ec]
 refine sc_for ?_
 dsimp only [UC,UD,UE,EA,EB,EC,ED,EE,EF,EG,EH,EI,EJ,EK,EL,EM,EN,EO,EP,EQ,ER,ES,ET,EU,EV,EW,EX,EY,EZ,Ea,Eb,Ec]
 refine ⟨_, rfl, ?_⟩
 refine for_seq (vs := (ss.map fun s : Nat => W.int (s : Int)).map V.w) (FoI h nl fl found masks ss) (fun _ _ _ _ => rfl) ?_ ?_ ⟨rfl, rfl, rfl, rfl, by simp⟩
 ·rintro j e' h' x hx ⟨rfl, e1, e2, e3, e4⟩
  obtain ⟨s, hs, rfl⟩ : ∃ s, ss[j]? = some s ∧ V.int (s : Int) = x := map_at2 (f := fun n : Nat => W.int (n : Int)) (g := V.w) hx
  have hsm := List.mem_of_getElem? hs
  have hsf := hf s hsm
  have hsk := hm s hsm
  refine ⟨_, rfl, fun K hK => ?_⟩
  dsimp only [UF,UG,YA,YB,YC,YD,YE,YF,YG,YH,YI,YJ,YK,YL,EA,EB,EC,ED,EE,EF,EG,EH,EI,EJ,EK,EL,EM,EN,EO,EP,EQ,ER,ES,ET,EU,EV,EW,EX,EY,EZ,Ea,Eb,Ec,JA,JB,JC,JD,JE,JF,JG]
  refine ⟨_, e3, _, e2, _, rfl, r_get h2 (by lia) (vInts_at (List.getElem?_eq_getElem hsk)) ⟨_, _, ⟨rfl, rfl⟩, _, e1, _, rfl, r_get h1 (by lia) (vals_at (List.getElem?_eq_getElem hsf)) ⟨_, rfl, ?_⟩⟩⟩
  have em : orMask masks (ss.take j) ||| masks[s] = orMask masks (ss.take (j + 1)) := by
   rw [List.take_add_one, hs]
   show _ = orMask masks (ss.take j ++ [s])
   rw [orMask_snoc, List.getD_eq_getElem?_getD, List.getElem?_eq_getElem hsk]; rfl
  have en : nulB found s = found[s] := by unfold nulB; rw [List.getD_eq_getElem?_getD, List.getElem?_eq_getElem hsf]; rfl
  rw [em]
  cases hb : found[s] with
  | true =>
   refine (if_neg (c := (!true) = true) (by simp)).mpr ?_
   refine hK _ _ ⟨rfl, e1, e2, rfl, fun t ht => ?_⟩
   rw [List.take_add_one, hs] at ht
   rcases List.mem_append.mp ht with ht | ht
   ·exact e4 t ht
   ·simp at ht; subst ht; rw [en, hb]
  | false =>
   refine (if_pos (c := (!false) = true) (by simp)).mpr ?_
   dsimp only [UA,UB]
   refine ⟨_, rfl, [_, _], ⟨rfl, by simp⟩, ?_⟩
   have hsplit : ss = ss.take j ++ s :: ss.drop (j + 1) := by
    conv => lhs; rw [← List.take_append_drop j ss]
    congr 1
    rw [List.drop_eq_getElem_cons (lt_of_get hs)]
    congr 1
    rw [List.getElem?_eq_getElem (lt_of_get hs)] at hs
    exact Option.some.inj hs
   have ha : ahead (nulB found) ss = (ss.take j ++ [s], false) := by
    have h0 := ahead_stop (f := nulB found) (ys := ss.drop (j + 1)) e4 (show nulB found s = false by rw [en, hb])
    rw [← hsplit] at h0; exact h0
   rw [ha] at q
   have : orMask masks (ss.take j ++ [s]) = orMask masks (ss.take (j + 1)) := by rw [List.take_add_one, hs]; rfl
   rw [this] at q
   exact q
 ·rintro e' h' ⟨rfl, e1, e2, e3, e4⟩
  rw [List.length_map, List.length_map, List.take_length] at e3 e4
  dsimp only [UF,UG,YA,YB,YC,YD,YE,YF,YG,YH,YI,YJ,YK,YL,EA,EB,EC,ED,EE,EF,EG,EH,EI,EJ,EK,EL,EM,EN,EO,EP,EQ,ER,ES,ET,EU,EV,EW,EX,EY,EZ,Ea,Eb,Ec,UA,UB]
  refine ⟨_, e3, [_, _], ⟨rfl, by simp⟩, ?_⟩
  rw [ahead_all e4] at q
  exact q
end
end Mine
end
section
namespace Mine
inductive Fst (rs : List Rl) (nt : Nat) (f : Nat → Bool) : Nat → Nat → Prop
 | base {s} : s < nt → Fst rs nt f s s
 | step {r : Rl} {u t} : r ∈ rs → u ∈ (ahead f r.2).1 → Fst rs nt f u t → Fst rs nt f r.1 t
theorem ahead_sub {α : Type} {f : α → Bool} : ∀ {xs : List α} {x}, x ∈ (ahead f xs).1 → x ∈ xs
 | [], _, h => by simp [ahead] at h
 | y :: xs, x, h => by
  unfold ahead at h
  split at h
  ·rcases List.mem_cons.mp h with rfl | h
   ·exact .head _
   ·exact .tail _ (ahead_sub h)
  ·simp at h; subst h; exact .head _
noncomputable def MaskOk (rs : List Rl) (nt ns : Nat) (f : Nat → Bool) (masks : List Nat) : Prop := masks.length = ns ∧ ∀ s b : Nat, s < ns → ((masks.getD s 0).testBit b = true ↔ Fst rs nt f s b)
structure MaskI (rs : List Rl) (nt ns : Nat) (f : Nat → Bool) (masks : List Nat) : Prop where
 len : masks.length = ns
 snd : ∀ s b : Nat, s < ns → (masks.getD s 0).testBit b = true → Fst rs nt f s b
 base : ∀ s : Nat, s < nt → s < ns → (masks.getD s 0).testBit s = true
 lt : ∀ m ∈ masks, m < 2 ^ nt
section
variable {h : MH} {g : Nat} {L : Loc} {names : List Nm} {nt : Nat} {rs : List Rl} {n : Nat} {C : CS}
noncomputable def slack (nt : Nat) (masks : List Nat) : Nat := (masks.map fun m => 2 ^ nt - m).sum
theorem slack_set (nt : Nat) : ∀ (masks : List Nat) (s m m0 : Nat), masks[s]? = some m0 → m0 < m → m < 2 ^ nt → slack nt (masks.set s m) < slack nt masks
 | [], _, _, _, h, _, _ => by simp at h
 | x :: xs, 0, m, m0, h, h1, h2 => by
  simp at h; subst h
  simp only [slack, List.set_cons_zero, List.map_cons, List.sum_cons]; lia
 | x :: xs, s + 1, m, m0, h, h1, h2 => by
  simp at h
  have := slack_set nt xs s m m0 h h1 h2
  simp only [slack, List.set_cons_succ, List.map_cons, List.sum_cons] at this ⊢; lia
theorem or_lt {a b n : Nat} (ha : a < 2 ^ n) (hb : b < 2 ^ n) : a ||| b < 2 ^ n := Nat.or_lt_two_pow ha hb
theorem le_or (a b : Nat) : a ≤ a ||| b := Nat.left_le_or
theorem getD_of {masks : List Nat} {s : Nat} (h : s < masks.length) : masks.getD s 0 = masks[s] := by rw [List.getD_eq_getElem?_getD, List.getElem?_eq_getElem h]; rfl
theorem getD_set {masks : List Nat} {s t m : Nat} (h : s < masks.length) : (masks.set s m).getD t 0 = if t = s then m else masks.getD t 0 := by
 rw [List.getD_eq_getElem?_getD, List.getElem?_set, List.getD_eq_getElem?_getD]
 by_cases ht : s = t
 ·subst ht; simp [h]
 ·rw [if_neg ht, if_neg fun q => ht q.symm]
theorem orMask_lt {masks ss : List Nat} {nt : Nat} (h : ∀ m ∈ masks, m < 2 ^ nt) : orMask masks ss < 2 ^ nt := by
 refine Nat.lt_pow_two_of_testBit _ fun i hi => ?_
 cases hb : (orMask masks ss).testBit i with
 | false => rfl
 | true =>
  obtain ⟨s, _, hs⟩ := (orMask_bit _ _ _).mp hb
  rw [List.getD_eq_getElem?_getD] at hs
  cases hm : masks[s]? with
  | none => rw [hm] at hs; simp at hs
  | some m =>
   rw [hm] at hs
   have := Nat.testBit_lt_two_pow (Nat.lt_of_lt_of_le (h m (List.mem_of_getElem? hm)) (Nat.pow_le_pow_right (by lia) hi))
   rw [show (some m).getD 0 = m from rfl, this] at hs; cases hs
theorem MaskI.grow {ns : Nat} {f : Nat → Bool} {masks : List Nat} (I : MaskI rs nt ns f masks) {r : Rl} (hr : r ∈ rs) (hl : r.1 < ns) (hs : ∀ s ∈ r.2, s < ns) :
  MaskI rs nt ns f (masks.set r.1 (masks.getD r.1 0 ||| orMask masks (ahead f r.2).1)) where
 len := by rw [List.length_set]; exact I.len
 snd := fun s b hsn hb => by
  rw [getD_set (by rw [I.len]; exact hl)] at hb
  split at hb
  ·rename_i he; subst he
   rw [Nat.testBit_or, Bool.or_eq_true] at hb
   rcases hb with hb | hb
   ·exact I.snd _ _ hsn hb
   ·obtain ⟨u, hu, hub⟩ := (orMask_bit _ _ _).mp hb
    exact .step hr hu (I.snd u b (hs u (ahead_sub hu)) hub)
  ·exact I.snd _ _ hsn hb
 base := fun s h1 h2 => by
  rw [getD_set (by rw [I.len]; exact hl)]
  split
  ·rename_i he; subst he; rw [Nat.testBit_or, I.base _ h1 h2]; rfl
  ·exact I.base s h1 h2
 lt := fun m hm => by
  rcases List.mem_or_eq_of_mem_set hm with hm | rfl
  ·exact I.lt m hm
  ·refine or_lt ?_ (orMask_lt I.lt)
   rw [getD_of (by rw [I.len]; exact hl)]
   exact I.lt _ (List.getElem_mem _)
theorem MaskI.fin {ns : Nat} {f : Nat → Bool} {masks : List Nat} (I : MaskI rs nt ns f masks) (hns : ∀ r ∈ rs, r.1 < ns ∧ ∀ s ∈ r.2, s < ns) (hc : ∀ r ∈ rs, masks.getD r.1 0 ||| orMask masks (ahead f r.2).1 = masks.getD r.1 0) : MaskOk rs nt ns f masks := by
 refine ⟨I.len, fun s b hs => ⟨I.snd s b hs, fun hF => ?_⟩⟩
 induction hF with
 | base h => exact I.base _ h hs
 | step hr hu hF ih =>
  rename_i r u t
  have h1 := ih ((hns r hr).2 u (ahead_sub hu))
  rw [← hc r hr, Nat.testBit_or, Bool.or_eq_true]
  exact .inr ((orMask_bit _ _ _).mpr ⟨u, hu, h1⟩)
noncomputable def fmF (g nl fl : Nat) : Env := upd (upd (upd env0 .firsts (.loc fl)) .nullables (.loc nl)) .grammar (.loc g)
structure FmH (h0 h : MH) (nl fl : Nat) (found : List Bool) (masks : List Nat) : Prop where
 w0 : Wf h0
 kp : Kp h0 h
 new : h0.nxt ≤ fl
 lt : fl < h.nxt
 hn : h0.get nl = some (.list (found.map V.bool))
 hm : h.get fl = some (.list (vInts masks))
theorem FmH.set {h0 h : MH} {nl fl : Nat} {found : List Bool} {masks : List Nat} (S : FmH h0 h nl fl found masks) (m' : List Nat) : FmH h0 (h.set fl (.list (vInts m'))) nl fl found m' :=
 ⟨S.w0, S.kp.set _ (.inl (S.w0 _ S.new)) S.lt, S.new, S.lt, S.hn, get_set ..⟩
inductive FmA (h1 : MH) (g nl fl nt : Nat) (found : List Bool) (i : Nat) (e' : Env) (h' : MH) : Prop
 | mk (he : SubE (fmF g nl fl) e') (S : FmH h1 h' nl fl found ((List.range i).map fun s => if s < nt then 2 ^ s else 0))
inductive FmB (h1 : MH) (g nl fl nt ns : Nat) (rs : List Rl) (found : List Bool) (m : Nat) (e3 : Env) (h3 : MH) : Prop
 | mk (masks : List Nat) (grown : Bool) (he : SubE (fmF g nl fl) e3) (hg : e3 .is_grown = some (.bool grown)) (S : FmH h1 h3 nl fl found masks) (I : MaskI rs nt ns (nulB found) masks)
  (hm : m = slack nt masks + (if grown = true then 1 else 0)) (hc : grown = false → ∀ r ∈ rs, masks.getD r.1 0 ||| orMask masks (ahead (nulB found) r.2).1 = masks.getD r.1 0)
inductive FmC (h1 : MH) (g nl fl nt ns : Nat) (rs : List Rl) (found : List Bool) (masks : List Nat) (i : Nat) (e4 : Env) (h4 : MH) : Prop
 | mk (masks' : List Nat) (grown' : Bool) (he : SubE (fmF g nl fl) e4) (hg : e4 .is_grown = some (.bool grown')) (S : FmH h1 h4 nl fl found masks') (I : MaskI rs nt ns (nulB found) masks')
  (hs : slack nt masks' + (if grown' = true then 1 else 0) ≤ slack nt masks) (hc : grown' = false → ∀ (k : Nat) r, k < i → rs[k]? = some r → masks'.getD r.1 0 ||| orMask masks' (ahead (nulB found) r.2).1 = masks'.getD r.1 0)
theorem sp_first_masks {Q : V → MH → Prop} (w : Wf h) (G : GAt h g L names nt rs) (hnt : nt < 60)
  (q : ∀ h' N found masks, Kp h h' → NulL rs names.length found → h'.get N = some (.list (vInts masks)) → MaskOk rs nt names.length (nulB found) masks → Q (.loc N) h') : CL prog (n + 3) .first_masks [.loc g] h Q := by
 have hns := G.nnames
 have hnr := G.nrs
 refine ⟨_, rfl, ?_⟩
 show wSs (CL prog (n + 2)) body_first_masks _ h _
 unfold body_first_masks
 refine sc_assign ?_
 dsimp only [EA,EB,EC,ED,EE,EF,EG,EH,EI,EJ,EK,EL,EM,EN,EO,EP,EQ,ER,ES,ET,EU,EV,EW,EX,EY,EZ,Ea,Eb,Ec,UA,UB]
 refine ⟨_, rfl, sp_nullable w G fun h1 nl found k1 hnl hN => ?_⟩
 refine sc_assign ?_
 dsimp only [EA,EB,EC,ED,EE,EF,EG,EH,EI,EJ,EK,EL,EM,EN,EO,EP,EQ,ER,ES,ET,EU,EV,EW,EX,EY,EZ,Ea,Eb,Ec,UA,UB]
 refine ⟨by simp, ?_⟩
 have G1 := G.kp k1
 have hlen := hN.1
 have S : FmH h1 (h1.new (.list [])) nl h1.nxt found [] := ⟨k1.wf, (Ke.refl k1.wf).new _, Nat.le_refl _, Nat.lt_succ_self _, hnl, get_new ..⟩
 generalize h1.new (.list []) = h2 at S
 generalize hfl : h1.nxt = fl at S ⊢
 have he : SubE (fmF g nl fl) (upd (upd (upd env0 .grammar (.loc g)) .nullables (.loc nl)) .firsts (.loc fl)) := .cons (.cons (.cons .nil rfl) rfl) rfl
 refine sc_for ?_
 dsimp only [UC,UD,UE,EA,EB,EC,ED,EE,EF,EG,EH,EI,EJ,EK,EL,EM,EN,EO,EP,EQ,ER,ES,ET,EU,EV,EW,EX,EY,EZ,Ea,Eb,Ec,UA,UB]
 refine ⟨_, he .grammar _ rfl, ⟨_, _, rfl, (G1.kp S.kp).at_, (G1.kp S.kp).nonum⟩, sp_symbol_count (G1.kp S.kp) ⟨_, ⟨rfl, by unfold small; lia⟩, ?_⟩⟩
 refine for_range (FmA h1 g nl fl nt found) (by lia) ?_ ?_ ⟨he, S⟩
 ·rintro i e' h' hi ⟨he', S'⟩ K hK
  dsimp only [UF,UG,YA,YB,YC,YD,YE,YF,YG,YH,YI,YJ,YK,YL,EA,EB,EC,ED,EE,EF,EG,EH,EI,EJ,EK,EL,EM,EN,EO,EP,EQ,ER,ES,ET,EU,EV,EW,EX,EY,EZ,Ea,Eb,Ec,JA,JB,JC,JD,JE,JF,JG,UA,UB]
  have he2 := he'.upd (y := .symbol) (w := .int (i : Int)) rfl
  have G2 := G1.kp S'.kp
  refine ⟨_, he2 .firsts _ rfl, ⟨_, _, rfl, S'.hm⟩, _, he2 .grammar _ rfl, ⟨_, _, rfl, G2.at_, G2.nonum⟩, _, rfl, sp_is_terminal G2 ⟨_, rfl, ?_⟩⟩
  have hap : ∀ m : Nat, m = (if i < nt then 2 ^ i else 0) → appendop (.loc fl) (.int (m : Int)) h' fun v h1 => v = V.none ∧ K (upd e' .symbol (.int (i : Int))) h1 := fun m hm => by
   refine ⟨_, _, ⟨rfl, S'.hm, by rw [vInts_length]; simp [room]; lia⟩, rfl, hK _ _ ⟨he2, ?_⟩⟩
   have := S'.set (((List.range i).map fun s => if s < nt then 2 ^ s else 0) ++ [m])
   rw [List.range_succ, List.map_append, List.map_cons, List.map_nil, ← hm]
   have e : vInts ((List.range i).map fun s => if s < nt then 2 ^ s else 0) ++ [V.int (m : Int)] = vInts (((List.range i).map fun s => if s < nt then 2 ^ s else 0) ++ [m]) := by simp [vInts]
   rw [e]; exact this
  by_cases hit : i < nt
  ·rw [if_pos (by simpa using hit)]
   refine ⟨_, rfl, i, ⟨rfl, rfl, by lia⟩, ?_⟩
   exact hap (2 ^ i) (by rw [if_pos hit])
  ·rw [if_neg (by simpa using hit)]
   exact hap 0 (by rw [if_neg hit])
 ·rintro e' h' ⟨he', S'⟩
  refine sc_assign ?_
  dsimp only [EA,EB,EC,ED,EE,EF,EG,EH,EI,EJ,EK,EL,EM,EN,EO,EP,EQ,ER,ES,ET,EU,EV,EW,EX,EY,EZ,Ea,Eb,Ec]
  have hle := G.ntle
  have I0 : MaskI rs nt names.length (nulB found) ((List.range names.length).map fun s => if s < nt then 2 ^ s else 0) := by
   have hg : ∀ s : Nat, s < names.length → ((List.range names.length).map fun s => if s < nt then 2 ^ s else 0).getD s 0 = if s < nt then 2 ^ s else 0 := fun s hs => by
    rw [List.getD_eq_getElem?_getD, List.getElem?_map, List.getElem?_range hs]; rfl
   refine ⟨by simp, fun s b hs hb => ?_, fun s h1 h2 => ?_, fun m hm => ?_⟩
   ·rw [hg s hs] at hb
    split at hb
    ·rename_i h1
     rw [Nat.testBit_two_pow] at hb
     have : s = b := by simpa using hb
     subst this; exact .base h1
    ·simp at hb
   ·rw [hg s h2, if_pos h1, Nat.testBit_two_pow]; simp
   ·obtain ⟨s, hs, rfl⟩ := List.mem_map.mp hm
    split
    ·exact Nat.pow_lt_pow_right (by lia) (by assumption)
    ·exact Nat.pow_pos (by lia)
  generalize ((List.range names.length).map fun s => if s < nt then 2 ^ s else 0) = m0 at S' I0
  refine sc_while ?_
  refine while_inv (FmB h1 g nl fl nt names.length rs found) ?_
    ⟨m0, true, he'.upd rfl, rfl, S', I0, rfl, fun h => by cases h⟩
  ·rintro m e3 h3 ⟨masks, grown, he3, hgr, S3, I3, hm, hcl⟩ K hK
   dsimp only [JA,JB,JC,JD,JE,JF,JG,EA,EB,EC,ED,EE,EF,EG,EH,EI,EJ,EK,EL,EM,EN,EO,EP,EQ,ER,ES,ET,EU,EV,EW,EX,EY,EZ,Ea,Eb,Ec]
   refine ⟨_, hgr, _, rfl, ?_⟩
   cases grown with
   | false =>
    rw [if_neg (by simp)]
    dsimp only [UF,UG,YA,YB,YC,YD,YE,YF,YG,YH,YI,YJ,YK,YL,EA,EB,EC,ED,EE,EF,EG,EH,EI,EJ,EK,EL,EM,EN,EO,EP,EQ,ER,ES,ET,EU,EV,EW,EX,EY,EZ,Ea,Eb,Ec]
    exact ⟨_, he3 .firsts _ rfl, q _ _ _ _ (k1.trans S3.kp) hN S3.hm (I3.fin (fun r hr => ⟨(G.left r hr).1, (G.right r hr).2⟩) (hcl rfl))⟩
   | true =>
    rw [if_pos rfl]
    refine sc_assign ?_
    dsimp only [EA,EB,EC,ED,EE,EF,EG,EH,EI,EJ,EK,EL,EM,EN,EO,EP,EQ,ER,ES,ET,EU,EV,EW,EX,EY,EZ,Ea,Eb,Ec]
    refine sc_for ?_
    dsimp only [UC,UD,UE,EA,EB,EC,ED,EE,EF,EG,EH,EI,EJ,EK,EL,EM,EN,EO,EP,EQ,ER,ES,ET,EU,EV,EW,EX,EY,EZ,Ea,Eb,Ec]
    have he4 := he3.upd (y := .is_grown) (w := .bool false) rfl
    have G3 := G1.kp S3.kp
    refine ⟨_, he4 .grammar _ rfl, r_attr G3.at_ rfl G3.frules ?_⟩
    refine for_seq (vs := L.rl.map V.loc) (FmC h1 g nl fl nt names.length rs found masks) ?_ ?_ ?_
     ⟨masks, false, he4, rfl, S3, I3, by simp, fun _ k r hk => absurd hk (Nat.not_lt_zero _)⟩
    ·rintro i e4 h4 ⟨_, _, _, _, S4, _⟩
     simp only [items, (G1.kp S4.kp).hrules]
    ·rintro i e4 h4 x hx ⟨masks', grown', he5, hg5, S5, I5, hs5, hc5⟩
     obtain ⟨l, hl, rfl⟩ : ∃ l, L.rl[i]? = some l ∧ V.loc l = x := map_at hx
     have hi : i < rs.length := by rw [← G.nrules]; exact lt_of_get hl
     have hr : rs[i]? = some rs[i] := List.getElem?_eq_getElem hi
     have hmem : rs[i] ∈ rs := List.getElem_mem hi
     have hleft := (G.left _ hmem).1
     have hright := (G.right _ hmem).2
     have hml : rs[i].1 < masks'.length := by rw [I5.len]; exact hleft
     obtain ⟨fs, q1, q2, q3, q4⟩ := (G1.kp S5.kp).rule i _ l hr hl
     refine ⟨_, rfl, fun K' hK' => ?_⟩
     have he6 := he5.upd (y := .rule) (w := .loc l) rfl
     dsimp only [UF,UG,YA,YB,YC,YD,YE,YF,YG,YH,YI,YJ,YK,YL,EA,EB,EC,ED,EE,EF,EG,EH,EI,EJ,EK,EL,EM,EN,EO,EP,EQ,ER,ES,ET,EU,EV,EW,EX,EY,EZ,Ea,Eb,Ec,JA,JB,JC,JD,JE,JF,JG,UA,UB]
     refine ⟨_, he6 .firsts _ rfl, _, rfl, r_attr q1 rfl q3 (r_get S5.hm (by lia) (vInts_at (List.getElem?_eq_getElem hml)) ⟨_, rfl, r_attr q1 rfl q4 ⟨_, he6 .nullables _ rfl, _, he6 .firsts _ rfl, ?_⟩⟩)⟩
     refine sp_first_of (S5.kp.get S5.hn) S5.hm (fun s hs => by rw [hlen]; exact hright s hs) (fun s hs => by rw [I5.len]; exact hright s hs) (by lia) ?_
     refine r_gett (n := 0) (by lia) rfl ⟨_, _, ⟨rfl, rfl⟩, ?_⟩
     have he7 := he6.upd (y := .mask) (w := .int ((masks'[rs[i].1] ||| orMask masks' (ahead (nulB found) rs[i].2).1 : Nat) : Int)) rfl
     refine ⟨_, rfl, _, he7 .firsts _ rfl, _, rfl, r_attr q1 rfl q3 (r_get S5.hm (by lia) (vInts_at (List.getElem?_eq_getElem hml)) ⟨_, rfl, ?_⟩)⟩
     by_cases hne : masks'[rs[i].1] ||| orMask masks' (ahead (nulB found) rs[i].2).1 = masks'[rs[i].1]
     ·show (if _ = true then _ else _)
      rw [if_neg (by rw [decide_eq_true (by rw [hne])]; simp)]
      refine hK' _ _ ⟨masks', grown', he7, hg5, S5, I5, hs5, fun hg k r hk hkr => ?_⟩
      by_cases hki : k = i
      ·subst hki; rw [hr] at hkr; cases hkr
       rw [getD_of hml]; exact hne
      ·exact hc5 hg k r (by lia) hkr
     ·show (if _ = true then _ else _)
      rw [if_pos (by rw [decide_eq_false (by intro hq; exact hne (by exact_mod_cast hq))]; rfl)]
      refine ⟨_, rfl, _, he7 .firsts _ rfl, _, rfl, r_attr q1 rfl q3 (.inl ⟨fl, _, rs[i].1, ⟨rfl, rfl, S5.hm, by lia, by unfold small; lia, by rw [vInts_length]; lia⟩, ?_⟩)⟩
      have S6 := S5.set (masks'.set rs[i].1 (masks'[rs[i].1] ||| orMask masks' (ahead (nulB found) rs[i].2).1))
      have e1 : (vInts masks').set (rs[i].1 : Int).toNat (V.int ((masks'[rs[i].1] ||| orMask masks' (ahead (nulB found) rs[i].2).1 : Nat) : Int)) = vInts (masks'.set rs[i].1 (masks'[rs[i].1] ||| orMask masks' (ahead (nulB found) rs[i].2).1)) := by
       simp [vInts, List.map_set]
      rw [e1]
      have I6 := I5.grow hmem hleft hright
      rw [getD_of hml] at I6
      refine hK' _ _ ⟨_, true, he7.upd rfl, rfl, S6, I6, ?_, fun h => by cases h⟩
      have hlt : masks'[rs[i].1] < masks'[rs[i].1] ||| orMask masks' (ahead (nulB found) rs[i].2).1 := Nat.lt_of_le_of_ne (le_or _ _) fun q => hne q.symm
      have := slack_set nt masks' rs[i].1 _ _ (List.getElem?_eq_getElem hml) hlt (or_lt (I5.lt _ (List.getElem_mem hml)) (orMask_lt I5.lt))
      simp only [if_true]
      split at hs5 <;> lia
    ·rintro e4 h4 ⟨masks', grown', he5, hg5, S5, I5, hs5, hc5⟩
     rw [List.length_map, G.nrules] at hc5
     dsimp only [UF,UG]
     refine hK (slack nt masks' + (if grown' = true then 1 else 0)) _ _ ?_ ⟨masks', grown', he5, hg5, S5, I5, rfl, fun hg r hr => ?_⟩
     ·simp only [if_true] at hm; lia
     ·obtain ⟨i, hi, hri⟩ := List.getElem_of_mem hr
      exact hc5 hg i r hi (by rw [List.getElem?_eq_getElem hi, hri])
end
end Mine
end
section
namespace Mine
abbrev Mp := Nat → Nat → Option Nat
noncomputable def VP (rs : List Rl) (r d : Nat) : Prop := ∃ x, rs[r]? = some x ∧ d ≤ x.2.length
structure DRep (rs : List Rl) (es : List (Int × Int)) (μ : Mp) : Prop where
 nd : (es.map (·.1)).Nodup
 get : ∀ r d, VP rs r d → dget es (item rs r d : Nat) = (μ r d).map fun m : Nat => (m : Int)
 keys : ∀ p ∈ es, ∃ (r d m : Nat), VP rs r d ∧ p = (((item rs r d : Nat) : Int), (m : Int)) ∧ μ r d = some m
 vp : ∀ r d m, μ r d = some m → VP rs r d
theorem dget_mem {es : List (Int × Int)} (nd : (es.map (·.1)).Nodup) {k v : Int} : dget es k = some v ↔ (k, v) ∈ es := by
 unfold dget
 induction es with
 | nil => simp
 | cons e es ih =>
  obtain ⟨k', v'⟩ := e
  simp only [List.map_cons, List.nodup_cons] at nd
  rw [List.find?_cons]
  by_cases hk : k' = k
  ·subst hk
   simp only [decide_true, Option.map_some, Option.some.injEq, List.mem_cons, Prod.mk.injEq, true_and]
   constructor
   ·exact fun q => .inl q.symm
   ·rintro (q | q)
    ·exact q.symm
    ·exact absurd (List.mem_map_of_mem (f := (·.1)) q) nd.1
  ·have : decide (k' = k) = false := decide_eq_false hk
   simp only [this, List.mem_cons, Prod.mk.injEq]
   rw [ih nd.2]
   constructor
   ·exact .inr
   ·rintro (⟨q, _⟩ | q)
    ·exact absurd q.symm hk
    ·exact q
theorem dput_keys_mem {es : List (Int × Int)} {k v : Int} (h : k ∈ es.map (·.1)) : (dput es k v).map (·.1) = es.map (·.1) := by
 have : (es.any fun e => decide (e.1 = k)) = true := by
  rw [List.any_eq_true]
  obtain ⟨e, he, hk⟩ := List.mem_map.mp h
  exact ⟨e, he, by simpa using hk⟩
 unfold dput
 rw [if_pos this, List.map_map]
 apply List.map_congr_left
 intro e he
 show (if e.1 = k then (e.1, v) else e).1 = e.1
 split <;> rfl
theorem dput_keys_new {es : List (Int × Int)} {k v : Int} (h : k ∉ es.map (·.1)) : dput es k v = es ++ [(k, v)] := by
 have : (es.any fun e => decide (e.1 = k)) = false := by
  rw [List.any_eq_false]
  intro e he hk
  exact h (List.mem_map.mpr ⟨e, he, by simpa using hk⟩)
 unfold dput
 rw [if_neg (by rw [this]; simp)]
theorem dput_nd {es : List (Int × Int)} (nd : (es.map (·.1)).Nodup) (k v : Int) : ((dput es k v).map (·.1)).Nodup := by
 by_cases h : k ∈ es.map (·.1)
 ·rw [dput_keys_mem h]; exact nd
 ·rw [dput_keys_new h, List.map_append, List.nodup_append]
  refine ⟨nd, by simp, fun a ha b hb => ?_⟩
  simp at hb; subst hb
  exact fun q => h (q ▸ ha)
theorem dput_mem {es : List (Int × Int)} {k v : Int} {p : Int × Int} (nd : (es.map (·.1)).Nodup) : p ∈ dput es k v ↔ p = (k, v) ∨ (p ∈ es ∧ p.1 ≠ k) := by
 by_cases h : k ∈ es.map (·.1)
 ·have : (es.any fun e => decide (e.1 = k)) = true := by
   rw [List.any_eq_true]
   obtain ⟨e, he, hk⟩ := List.mem_map.mp h
   exact ⟨e, he, by simpa using hk⟩
  unfold dput
  rw [if_pos this, List.mem_map]
  constructor
  ·rintro ⟨e, he, rfl⟩
   by_cases hk : e.1 = k
   ·left; rw [if_pos hk, hk]
   ·right; rw [if_neg hk]; exact ⟨he, hk⟩
  ·rintro (rfl | ⟨hp, hk⟩)
   ·obtain ⟨e, he, hk⟩ := List.mem_map.mp h
    exact ⟨e, he, by rw [if_pos hk]; rw [show e.1 = k from hk]⟩
   ·exact ⟨p, hp, by rw [if_neg hk]⟩
 ·rw [dput_keys_new h, List.mem_append, List.mem_singleton]
  constructor
  ·rintro (q | q)
   ·exact .inr ⟨q, fun z => h (z ▸ List.mem_map_of_mem q)⟩
   ·exact .inl q
  ·rintro (q | q)
   ·exact .inr q
   ·exact .inl q.1
theorem dget_dput {es : List (Int × Int)} (nd : (es.map (·.1)).Nodup) (k v k' : Int) : dget (dput es k v) k' = if k' = k then some v else dget es k' := by
 have nd' := dput_nd nd k v
 split
 ·rename_i h; subst h
  exact (dget_mem nd').mpr ((dput_mem nd).mpr (.inl rfl))
 ·rename_i h
  cases hq : dget es k' with
  | some w => exact (dget_mem nd').mpr ((dput_mem nd).mpr (.inr ⟨(dget_mem nd).mp hq, h⟩))
  | none =>
   cases hz : dget (dput es k v) k' with
   | none => rfl
   | some w =>
    rcases (dput_mem nd).mp ((dget_mem nd').mp hz) with q | ⟨q, _⟩
    ·cases q; exact absurd rfl h
    ·rw [(dget_mem nd).mpr q] at hq; cases hq
noncomputable def mput (μ : Mp) (r d m : Nat) : Mp := fun r' d' => if r' = r ∧ d' = d then some m else μ r' d'
theorem DRep.put {rs : List Rl} {es : List (Int × Int)} {μ : Mp} (R : DRep rs es μ) {r d : Nat} (hv : VP rs r d) (m : Nat) : DRep rs (dput es (item rs r d : Nat) (m : Nat)) (mput μ r d m) where
 nd := dput_nd R.nd _ _
 get := fun r' d' hv' => by
  rw [dget_dput R.nd]
  unfold mput
  obtain ⟨x, hx, hd⟩ := hv
  obtain ⟨x', hx', hd'⟩ := hv'
  by_cases h : r' = r ∧ d' = d
  ·obtain ⟨rfl, rfl⟩ := h
   rw [if_pos rfl, if_pos ⟨rfl, rfl⟩]; rfl
  ·rw [if_neg h, if_neg fun q => h (item_inj hx' hx hd' hd (by exact_mod_cast q))]
   exact R.get r' d' ⟨x', hx', hd'⟩
 keys := fun p hp => by
  rcases (dput_mem R.nd).mp hp with rfl | ⟨hp, hk⟩
  ·exact ⟨r, d, m, hv, rfl, by simp [mput]⟩
  ·obtain ⟨r', d', m', h1, rfl, h3⟩ := R.keys p hp
   refine ⟨r', d', m', h1, rfl, ?_⟩
   unfold mput
   rw [if_neg, h3]
   rintro ⟨rfl, rfl⟩
   exact hk rfl
 vp := fun r' d' m' h => by
  unfold mput at h
  split at h
  ·rename_i hh; obtain ⟨rfl, rfl⟩ := hh; exact hv
  ·exact R.vp r' d' m' h
theorem DRep.deq {rs : List Rl} {es fs : List (Int × Int)} {μ : Mp} (R : DRep rs es μ) (R' : DRep rs fs μ) : deq es fs = true := by
 have key : ∀ {es fs : List (Int × Int)}, DRep rs es μ → DRep rs fs μ → ∀ p ∈ es, p ∈ fs := fun {es fs} R R' p hp => by
  obtain ⟨r, d, m, hv, rfl, hm⟩ := R.keys p hp
  have := R'.get r d hv
  rw [hm] at this
  exact (dget_mem R'.nd).mp this
 have hlen : es.length = fs.length := by
  have hperm : (es.map (·.1)).Perm (fs.map (·.1)) := by
   rw [List.perm_ext_iff_of_nodup R.nd R'.nd]
   intro k
   constructor
   ·intro hk
    obtain ⟨p, hp, rfl⟩ := List.mem_map.mp hk
    exact List.mem_map_of_mem (key R R' p hp)
   ·intro hk
    obtain ⟨p, hp, rfl⟩ := List.mem_map.mp hk
    exact List.mem_map_of_mem (key R' R p hp)
  have := hperm.length_eq
  simpa using this
 unfold Mine.deq
 rw [hlen]
 simp only [decide_true, Bool.true_and, List.all_eq_true, decide_eq_true_eq]
 intro p hp
 exact (dget_mem R'.nd).mpr (key R R' p hp)
section
variable (rs : List Rl) (nt : Nat) (f : Nat → Bool) (μ0 : Mp)
inductive ItR : Nat → Nat → Prop
 | base {r d m} : μ0 r d = some m → ItR r d
 | step {r d x u r' y} : ItR r d → rs[r]? = some x → x.2[d]? = some u → rs[r']? = some y → y.1 = u → ItR r' 0
inductive ItB : Nat → Nat → Nat → Prop
 | base {r d m b} : μ0 r d = some m → m.testBit b = true → ItB r d b
 | first {r d x u r' y s b} : ItR rs μ0 r d → rs[r]? = some x → x.2[d]? = some u → rs[r']? = some y → y.1 = u → s ∈ (ahead f (x.2.drop (d + 1))).1 → Fst rs nt f s b → ItB r' 0 b
 | pass {r d x u r' y b} : ItB r d b → rs[r]? = some x → x.2[d]? = some u → rs[r']? = some y → y.1 = u → (ahead f (x.2.drop (d + 1))).2 = true → ItB r' 0 b
noncomputable def MapOk (μ : Mp) : Prop := (∀ r d, (μ r d).isSome = true ↔ ItR rs μ0 r d) ∧ ∀ r d m b, μ r d = some m → (m.testBit b = true ↔ ItB rs nt f μ0 r d b)
end
theorem MapOk.uniq {rs : List Rl} {nt : Nat} {f : Nat → Bool} {μ0 μ μ' : Mp} (h : MapOk rs nt f μ0 μ) (h' : MapOk rs nt f μ0 μ') : μ = μ' := by
 funext r d
 cases q : μ r d with
 | none =>
  cases q' : μ' r d with
  | none => rfl
  | some m' =>
   have := (h.1 r d).mpr ((h'.1 r d).mp (by rw [q']; rfl))
   rw [q] at this; cases this
 | some m =>
  cases q' : μ' r d with
  | none =>
   have := (h'.1 r d).mpr ((h.1 r d).mp (by rw [q]; rfl))
   rw [q'] at this; cases this
  | some m' =>
   congr 1
   apply Nat.eq_of_testBit_eq
   intro b
   have := (h.2 r d m b q).trans (h'.2 r d m' b q').symm
   cases h1 : m.testBit b <;> cases h2 : m'.testBit b <;> simp_all
end Mine
end
section
namespace Mine
section
variable (rs : List Rl) (nt : Nat) (f : Nat → Bool) (masks : List Nat) (μ0 : Mp)
noncomputable def Cls (μ : Mp) (r d : Nat) : Prop := ∀ x u, rs[r]? = some x → x.2[d]? = some u → ∀ (r' : Nat) y, rs[r']? = some y → y.1 = u →
 ∃ m', μ r' 0 = some m' ∧ (∀ b, (orMask masks (ahead f (x.2.drop (d + 1))).1).testBit b = true → m'.testBit b = true) ∧
  ((ahead f (x.2.drop (d + 1))).2 = true → ∀ m, μ r d = some m → ∀ b, m.testBit b = true → m'.testBit b = true)
structure WkB (μ : Mp) (line : List (Nat × Nat)) : Prop where
 snd : ∀ r d m, μ r d = some m → VP rs r d ∧ ItR rs μ0 r d ∧ (∀ b, m.testBit b = true → ItB rs nt f μ0 r d b) ∧ m < 2 ^ 60
 mem : ∀ p ∈ line, (μ p.1 p.2).isSome = true
 base : ∀ r d m, μ0 r d = some m → ∃ m', μ r d = some m' ∧ ∀ b, m.testBit b = true → m'.testBit b = true
structure Wk (μ : Mp) (line : List (Nat × Nat)) (at_ : Nat) : Prop extends WkB rs nt f μ0 μ line where
 pend : ∀ r d, (μ r d).isSome = true → (r, d) ∈ line.drop at_ ∨ Cls rs f masks μ r d
structure Wi (μ : Mp) (line : List (Nat × Nat)) (at_ r0 d0 m0 mask : Nat) (done : List Nat) : Prop extends WkB rs nt f μ0 μ line where
 pend : ∀ r d, (μ r d).isSome = true → (r, d) ∈ line.drop at_ ∨ Cls rs f masks μ r d ∨ (r = r0 ∧ d = d0)
 own : (r0, d0) ∈ line.drop at_ ∨ μ r0 d0 = some m0
 done : ∀ k ∈ done, ∃ m', μ k 0 = some m' ∧ ∀ b, mask.testBit b = true → m'.testBit b = true
end
section
variable {rs : List Rl} {nt : Nat} {f : Nat → Bool} {masks : List Nat} {μ0 : Mp}
theorem Wk.fin {μ : Mp} {line : List (Nat × Nat)} {at_ : Nat} (W : Wk rs nt f masks μ0 μ line at_) (h : line.length ≤ at_) (hm : ∀ x s b, x ∈ rs → s ∈ x.2 → ((masks.getD s 0).testBit b = true ↔ Fst rs nt f s b)) : MapOk rs nt f μ0 μ := by
 have hcl : ∀ r d, (μ r d).isSome = true → Cls rs f masks μ r d := fun r d hs => by
  rcases W.pend r d hs with q | q
  ·rw [List.drop_eq_nil_of_le h] at q; simp at q
  ·exact q
 have hR : ∀ r d, ItR rs μ0 r d → (μ r d).isSome = true := fun r d hr => by
  induction hr with
  | base h0 => obtain ⟨m', h1, _⟩ := W.base _ _ _ h0; rw [h1]; rfl
  | step _ hx hu hy he ih => obtain ⟨m', h1, _⟩ := hcl _ _ ih _ _ hx hu _ _ hy he; rw [h1]; rfl
 have hB : ∀ r d b, ItB rs nt f μ0 r d b → ∃ m, μ r d = some m ∧ m.testBit b = true := fun r d b hb => by
  induction hb with
  | base h0 h1 => obtain ⟨m', h2, h3⟩ := W.base _ _ _ h0; exact ⟨m', h2, h3 _ h1⟩
  | first hr hx hu hy he hs hF =>
   obtain ⟨m', h1, h2, _⟩ := hcl _ _ (hR _ _ hr) _ _ hx hu _ _ hy he
   exact ⟨m', h1, h2 _ ((orMask_bit _ _ _).mpr ⟨_, hs, (hm _ _ _ (List.mem_of_getElem? hx) (List.mem_of_mem_drop (ahead_sub hs))).mpr hF⟩)⟩
  | pass _ hx hu hy he ho ih =>
   obtain ⟨m, h3, h4⟩ := ih
   obtain ⟨m', h1, _, h2⟩ := hcl _ _ (by rw [h3]; rfl) _ _ hx hu _ _ hy he
   exact ⟨m', h1, h2 ho m h3 _ h4⟩
 refine ⟨fun r d => ⟨fun hs => ?_, hR r d⟩, fun r d m b hmm => ⟨fun hb => (W.snd r d m hmm).2.2.1 b hb, fun hb => ?_⟩⟩
 ·obtain ⟨m, hm⟩ := Option.isSome_iff_exists.mp hs
  exact (W.snd r d m hm).2.1
 ·obtain ⟨m', h1, h2⟩ := hB r d b hb
  rw [hmm] at h1; cases h1; exact h2
theorem Wk.skip {μ : Mp} {line : List (Nat × Nat)} {at_ r0 d0 : Nat} (W : Wk rs nt f masks μ0 μ line at_) (hp : line[at_]? = some (r0, d0)) (hc : Cls rs f masks μ r0 d0) : Wk rs nt f masks μ0 μ line (at_ + 1) := by
 refine { W with pend := fun r d hs => ?_ }
 rcases W.pend r d hs with q | q
 ·rw [List.drop_eq_getElem_cons (lt_of_get hp)] at q
  rcases List.mem_cons.mp q with q | q
  ·rw [List.getElem?_eq_getElem (lt_of_get hp)] at hp
   rw [Option.some.inj hp] at q
   cases q; exact .inr hc
  ·exact .inl q
 ·exact .inr q
theorem Wk.enter {μ : Mp} {line : List (Nat × Nat)} {at_ r0 d0 m0 mask : Nat} (W : Wk rs nt f masks μ0 μ line at_) (hp : line[at_]? = some (r0, d0)) (hm : μ r0 d0 = some m0) : Wi rs nt f masks μ0 μ line (at_ + 1) r0 d0 m0 mask [] := by
 refine { W with pend := fun r d hs => ?_, own := .inr hm, done := fun k hk => by simp at hk }
 rcases W.pend r d hs with q | q
 ·rw [List.drop_eq_getElem_cons (lt_of_get hp)] at q
  rcases List.mem_cons.mp q with q | q
  ·rw [List.getElem?_eq_getElem (lt_of_get hp)] at hp
   rw [Option.some.inj hp] at q
   cases q; exact .inr (.inr ⟨rfl, rfl⟩)
  ·exact .inl q
 ·exact .inr (.inl q)
theorem Wi.close {μ : Mp} {line : List (Nat × Nat)} {at_ r0 d0 m0 mask : Nat} {done : List Nat} {x : Rl} {u : Nat} (W : Wi rs nt f masks μ0 μ line at_ r0 d0 m0 mask done) (hx : rs[r0]? = some x) (hu : x.2[d0]? = some u)
  (hmask : mask = if (ahead f (x.2.drop (d0 + 1))).2 = true then orMask masks (ahead f (x.2.drop (d0 + 1))).1 ||| m0 else orMask masks (ahead f (x.2.drop (d0 + 1))).1)
  (hd : ∀ (k : Nat) y, rs[k]? = some y → y.1 = u → k ∈ done) : Wk rs nt f masks μ0 μ line at_ := by
 refine { W with pend := fun r d hs => ?_ }
 rcases W.pend r d hs with q | q | ⟨rfl, rfl⟩
 ·exact .inl q
 ·exact .inr q
 ·rcases W.own with q | q
  ·exact .inl q
  ·refine .inr fun x' u' hx' hu' r' y hy he => ?_
   rw [hx] at hx'; cases hx'
   rw [hu] at hu'; cases hu'
   obtain ⟨m', h1, h2⟩ := W.done r' (hd r' y hy he)
   refine ⟨m', h1, fun b hb => h2 b ?_, fun ho m hm b hb => h2 b ?_⟩
   ·rw [hmask]; split
    ·rw [Nat.testBit_or, hb]; rfl
    ·exact hb
   ·rw [q] at hm; cases hm
    rw [hmask, if_pos ho, Nat.testBit_or, hb, Bool.or_true]
theorem Wi.same {μ : Mp} {line : List (Nat × Nat)} {at_ r0 d0 m0 mask k m : Nat} {done : List Nat} (W : Wi rs nt f masks μ0 μ line at_ r0 d0 m0 mask done) (hk : μ k 0 = some m) (hs : m ||| mask = m) : Wi rs nt f masks μ0 μ line at_ r0 d0 m0 mask (done ++ [k]) := by
 refine { W with done := fun k' hk' => ?_ }
 rcases List.mem_append.mp hk' with q | q
 ·exact W.done k' q
 ·simp at q; subst q
  refine ⟨m, hk, fun b hb => ?_⟩
  rw [← hs, Nat.testBit_or, hb, Bool.or_true]
theorem Wi.grow {μ : Mp} {line : List (Nat × Nat)} {at_ r0 d0 m0 mask k v : Nat} {done : List Nat} {y : Rl} (W : Wi rs nt f masks μ0 μ line at_ r0 d0 m0 mask done) (hat : at_ ≤ line.length) (hy : rs[k]? = some y) (hv : v = ((μ k 0).getD 0) ||| mask) (h60 : mask < 2 ^ 60)
  (hR : ItR rs μ0 k 0) (hB : ∀ b, mask.testBit b = true → ItB rs nt f μ0 k 0 b) : Wi rs nt f masks μ0 (mput μ k 0 v) (line ++ [(k, 0)]) at_ r0 d0 m0 mask (done ++ [k]) := by
 have hpd : ∀ p, p ∈ line.drop at_ → p ∈ (line ++ [(k, 0)]).drop at_ := fun p hp => by rw [List.drop_append_of_le_length hat]; exact List.mem_append_left _ hp
 have hpk : (k, 0) ∈ (line ++ [(k, 0)]).drop at_ := by rw [List.drop_append_of_le_length hat]; simp
 have hput : ∀ r d, mput μ k 0 v r d = if r = k ∧ d = 0 then some v else μ r d := fun _ _ => rfl
 have hgrow : ∀ r d m, μ r d = some m → ∃ m', mput μ k 0 v r d = some m' ∧ ∀ b, m.testBit b = true → m'.testBit b = true := fun r d m hm => by
  rw [hput]
  by_cases h : r = k ∧ d = 0
  ·obtain ⟨rfl, rfl⟩ := h
   rw [if_pos ⟨rfl, rfl⟩]
   refine ⟨v, rfl, fun b hb => ?_⟩
   rw [hv, hm, Nat.testBit_or]; show (m.testBit b || _) = true; rw [hb]; rfl
  ·rw [if_neg h]; exact ⟨m, hm, fun _ q => q⟩
 have hmv : ∀ b, mask.testBit b = true → v.testBit b = true := fun b hb => by rw [hv, Nat.testBit_or, hb, Bool.or_true]
 refine { snd := fun r d m hm => ?_, mem := fun p hp => ?_, base := fun r d m hm => ?_, pend := fun r d hs => ?_, own := ?_, done := fun k' hk' => ?_ }
 ·rw [hput] at hm
  split at hm
  ·rename_i h; obtain ⟨rfl, rfl⟩ := h
   cases hm
   refine ⟨⟨y, hy, Nat.zero_le _⟩, hR, fun b hb => ?_, ?_⟩
   ·rw [hv, Nat.testBit_or, Bool.or_eq_true] at hb
    rcases hb with hb | hb
    ·cases hq : μ r 0 with
     | none => rw [hq] at hb; simp at hb
     | some m => rw [hq] at hb; exact (W.snd r 0 m hq).2.2.1 b hb
    ·exact hB b hb
   ·rw [hv]
    refine or_lt ?_ h60
    cases hq : μ r 0 with
    | none => exact Nat.pow_pos (by lia)
    | some m => exact (W.snd r 0 m hq).2.2.2
  ·exact W.snd r d m hm
 ·rw [hput]
  split
  ·rfl
  ·rename_i h
   rcases List.mem_append.mp hp with q | q
   ·exact W.mem p q
   ·simp at q; subst q; exact absurd ⟨rfl, rfl⟩ h
 ·obtain ⟨m1, h1, h2⟩ := W.base r d m hm
  obtain ⟨m2, h3, h4⟩ := hgrow r d m1 h1
  exact ⟨m2, h3, fun b hb => h4 b (h2 b hb)⟩
 ·by_cases hrd : r = k ∧ d = 0
  ·obtain ⟨rfl, rfl⟩ := hrd; exact .inl hpk
  ·rw [hput, if_neg hrd] at hs
   rcases W.pend r d hs with q | q | q
   ·exact .inl (hpd _ q)
   ·refine .inr (.inl fun x u hx hu r' y' hy' he => ?_)
    obtain ⟨m', h1, h2, h3⟩ := q x u hx hu r' y' hy' he
    obtain ⟨m2, h4, h5⟩ := hgrow r' 0 m' h1
    refine ⟨m2, h4, fun b hb => h5 b (h2 b hb), fun ho m hm b hb => ?_⟩
    rw [hput, if_neg hrd] at hm
    exact h5 b (h3 ho m hm b hb)
   ·exact .inr (.inr q)
 ·rcases W.own with q | q
  ·exact .inl (hpd _ q)
  ·by_cases h : r0 = k ∧ d0 = 0
   ·obtain ⟨rfl, rfl⟩ := h; exact .inl hpk
   ·right; rw [hput, if_neg h]; exact q
 ·rcases List.mem_append.mp hk' with q | q
  ·obtain ⟨m1, h1, h2⟩ := W.done k' q
   obtain ⟨m2, h3, h4⟩ := hgrow k' 0 m1 h1
   exact ⟨m2, h3, fun b hb => h4 b (h2 b hb)⟩
  ·simp at q; subst q
   exact ⟨v, by rw [hput, if_pos ⟨rfl, rfl⟩], hmv⟩
theorem sum_lt {l : List Nat} {a b : Nat → Nat} (hle : ∀ r ∈ l, a r ≤ b r) {k : Nat} (hk : k ∈ l) (hlt : a k < b k) : (l.map a).sum < (l.map b).sum := by
 induction l with
 | nil => simp at hk
 | cons x l ih =>
  have hs : (l.map a).sum ≤ (l.map b).sum := by
   clear ih hk
   induction l with
   | nil => simp
   | cons z l ih2 =>
    have h1 := hle z (.tail _ (.head _))
    have h2 := ih2 fun r hr => by
     rcases List.mem_cons.mp hr with rfl | hr
     ·exact hle _ (.head _)
     ·exact hle r (.tail _ (.tail _ hr))
    simp only [List.map_cons, List.sum_cons]; lia
  have hx := hle x (.head _)
  simp only [List.map_cons, List.sum_cons]
  rcases List.mem_cons.mp hk with rfl | hk
  ·lia
  ·have := ih (fun r hr => hle r (.tail _ hr)) hk; lia
end
end Mine
end
section
namespace Mine
noncomputable def cnt (m : Nat) : Nat := ((List.range 60).filter fun b => m.testBit b).length
theorem filter_le {α : Type} {p q : α → Bool} {l : List α} (h : ∀ b ∈ l, p b = true → q b = true) : (l.filter p).length ≤ (l.filter q).length := by
 induction l with
 | nil => exact Nat.le_refl _
 | cons x l ih =>
  have ih := ih fun b hb => h b (.tail _ hb)
  rw [List.filter_cons, List.filter_cons]
  cases hp : p x with
  | true => rw [h x (.head _) hp]; exact Nat.succ_le_succ ih
  | false =>
   cases q x with
   | true => exact Nat.le_succ_of_le ih
   | false => exact ih
theorem filter_lt {α : Type} {p q : α → Bool} {l : List α} (h : ∀ b ∈ l, p b = true → q b = true) {k : α} (hk : k ∈ l) (h1 : p k = false) (h2 : q k = true) : (l.filter p).length < (l.filter q).length := by
 induction l with
 | nil => exact nomatch hk
 | cons x l ih =>
  have h' : ∀ b ∈ l, p b = true → q b = true := fun b hb => h b (.tail _ hb)
  rw [List.filter_cons, List.filter_cons]
  rcases List.mem_cons.mp hk with rfl | hk
  ·rw [h1, h2]; exact Nat.lt_succ_of_le (filter_le h')
  ·have ih := ih h' hk
   cases hp : p x with
   | true => rw [h x (.head _) hp]; exact Nat.succ_lt_succ ih
   | false =>
    cases q x with
    | true => exact Nat.lt_succ_of_lt ih
    | false => exact ih
theorem cnt_lt {m mask : Nat} (hm : m < 2 ^ 60) (hk : mask < 2 ^ 60) (hne : m ||| mask ≠ m) : cnt m < cnt (m ||| mask) := by
 have : ∃ b, (m ||| mask).testBit b ≠ m.testBit b := Classical.byContradiction fun hn => hne (Nat.eq_of_testBit_eq fun b => Classical.byContradiction fun hb => hn ⟨b, hb⟩)
 obtain ⟨b, hb⟩ := this
 rw [Nat.testBit_or] at hb
 have hmb : m.testBit b = false := by cases h : m.testBit b with
  | false => rfl
  | true => rw [h] at hb; simp at hb
 have hkb : mask.testBit b = true := by rw [hmb] at hb; simpa using hb
 have hb60 : b < 60 := by
  rcases Nat.lt_or_ge b 60 with q | q
  ·exact q
  ·rw [Nat.testBit_lt_two_pow (Nat.lt_of_lt_of_le hk (Nat.pow_le_pow_right (by lia) q))] at hkb; cases hkb
 unfold cnt
 exact filter_lt (fun c _ h => by rw [Nat.testBit_or, h]; rfl) (List.mem_range.mpr hb60) hmb (by rw [Nat.testBit_or, hkb, Bool.or_true])
theorem cnt_le (m : Nat) : cnt m ≤ 60 := by
 unfold cnt
 have := List.length_filter_le (fun b => m.testBit b) (List.range 60)
 rwa [List.length_range] at this
noncomputable def slackC (n : Nat) (μ : Mp) : Nat := ((List.range n).map fun r => match μ r 0 with | some m => 60 - cnt m | none => 61).sum
theorem slackC_put {n : Nat} {μ : Mp} {k v : Nat} (hk : k < n) (hc : ∀ m, μ k 0 = some m → cnt m < cnt v) : slackC n (mput μ k 0 v) < slackC n μ := by
 have hv := cnt_le v
 unfold slackC
 refine sum_lt (fun r _ => ?_) (List.mem_range.mpr hk) ?_
 ·unfold mput
  by_cases h : r = k ∧ (0 : Nat) = 0
  ·obtain ⟨rfl, _⟩ := h
   rw [if_pos ⟨rfl, rfl⟩]
   cases hq : μ r 0 with
   | none => simp only []; lia
   | some m => have := hc m hq; simp only []; lia
  ·rw [if_neg h]; exact Nat.le_refl _
 ·unfold mput
  rw [if_pos ⟨rfl, rfl⟩]
  cases hq : μ k 0 with
  | none => simp only []; lia
  | some m => have := hc m hq; simp only []; lia
theorem slackC_le (μ : Mp) (n : Nat) : slackC n μ ≤ 61 * n := by
 unfold slackC
 have : ∀ l : List Nat, (l.map fun r => match μ r 0 with | some m => 60 - cnt m | none => 61).sum ≤ 61 * l.length := by
  intro l
  induction l with
  | nil => simp
  | cons x l ih =>
   simp only [List.map_cons, List.sum_cons, List.length_cons]
   have h61 : (match μ x 0 with | some m => 60 - cnt m | none => 61) ≤ 61 := by
    cases μ x 0 with
    | none => exact Nat.le_refl _
    | some m => simp only []; lia
   lia
 have := this (List.range n)
 rwa [List.length_range] at this
noncomputable def itemsI (rs : List Rl) (line : List (Nat × Nat)) : List Nat := line.map fun p => item rs p.1 p.2
theorem sc_if {C : CS} {e : Env} {h : MH} {Q : Fl → Env → MH → Prop} {ss a b : Ss} {t : T} (r : Bool) (ht : ∀ P : Bool → MH → Prop, P r h → wT C t e h P)
  (q : wSs C (if r = true then a else b) e h (fun fl e' h' => match fl with | .next => wSs C ss e' h' Q | fl => Q fl e' h')) : wSs C (.cons (.ite t a b) ss) e h Q := by
 dsimp only [UF,UG,YA,YB,YC,YD,YE,YF,YG,YH,YI,YJ,YK,YL]
 refine ht _ ?_
 cases r <;> exact q
section
variable {h : MH} {g : Nat} {L : Loc} {names : List Nm} {nt : Nat} {rs : List Rl} {n : Nat} {C : CS}
theorem DRep.len (G : GAt h g L names nt rs) {es : List (Int × Int)} {μ : Mp} (R : DRep rs es μ) : es.length ≤ 360 := by
 have hs : es.map (·.1) ⊆ (List.range 360).map fun n : Nat => (n : Int) := fun k hk => by
  obtain ⟨p, hp, rfl⟩ := List.mem_map.mp hk
  obtain ⟨r, d, m, ⟨x, hx, hd⟩, rfl, _⟩ := R.keys p hp
  have h1 := lt_of_get (owns_at rs 0 r d x hx hd)
  have h2 := owns_length rs 0 fun r hr => (G.right r hr).1
  have := G.nrs
  exact List.mem_map.mpr ⟨_, List.mem_range.mpr (by lia), rfl⟩
 have := List.Nodup.length_le_of_subset R.nd hs
 simpa using this
noncomputable def siF (g bl nl fl N : Nat) : Env := upd (upd (upd (upd (upd (upd env0 .line (.loc (N + 1))) .found (.loc N)) .firsts (.loc fl)) .nullables (.loc nl)) .begins (.loc bl)) .grammar (.loc g)
structure SiH (h0 h : MH) (N : Nat) (rs : List Rl) (es : List (Int × Int)) (line : List (Nat × Nat)) : Prop where
 w0 : Wf h0
 kp : Kp h0 h
 new : h0.nxt ≤ N
 lt : N + 2 ≤ h.nxt
 hd : h.get N = some (.dict es)
 hl : h.get (N + 1) = some (.list (vInts (itemsI rs line)))
theorem SiH.setD {h0 h : MH} {N : Nat} {es : List (Int × Int)} {line : List (Nat × Nat)} (S : SiH h0 h N rs es line) (es' : List (Int × Int)) : SiH h0 (h.set N (.dict es')) N rs es' line :=
 ⟨S.w0, S.kp.set _ (.inl (S.w0 _ S.new)) (by have := S.lt; lia), S.new, S.lt, get_set .., by rw [get_set_ne _ _ (by lia)]; exact S.hl⟩
theorem SiH.setN {h0 h : MH} {N : Nat} {es : List (Int × Int)} {line : List (Nat × Nat)} (S : SiH h0 h N rs es line) (l' : List (Nat × Nat)) : SiH h0 (h.set (N + 1) (.list (vInts (itemsI rs l')))) N rs es l' :=
 ⟨S.w0, S.kp.set _ (.inl (S.w0 _ (Nat.le_succ_of_le S.new))) (by have := S.lt; lia), S.new, S.lt, by rw [get_set_ne _ _ (by lia)]; exact S.hd, get_set ..⟩
theorem SiH.kpN {h0 h h' : MH} {N : Nat} {es : List (Int × Int)} {line : List (Nat × Nat)} (S : SiH h0 h N rs es line) (k : Kp h h') : SiH h0 h' N rs es line :=
 ⟨S.w0, S.kp.trans k, S.new, Nat.le_trans S.lt k.le, k.get S.hd, k.get S.hl⟩
noncomputable def siBody : Ss := .cons (.assign .later (.meth .gitem (.var .grammar) (.cons (.var .rule) (.cons (.int 0) .nil)))) (.cons (.assign .known (.get (.var .found) (.var .later) .negOne)) (.cons (.ite (.or (.cmp .eq (.var .known) .negOne) (.cmp .ne (.bin .bor (.var .known) (.var .mask)) (.var .known))) (.cons (.setSub (.var .found) (.var .later) (.ite (.cmp .eq (.var .known) .negOne) (.var .mask) (.bin .bor (.var .known) (.var .mask)))) (.cons (.expr (.append (.var .line) (.var .later))) .nil)) .nil) .nil))
theorem si_turn {h0 hh : MH} {bl nl fl N : Nat} {es : List (Int × Int)} {line : List (Nat × Nat)} {e : Env} {μ μ0 : Mp} {found : List Bool} {masks : List Nat} {at_ r0 d0 m0 mask k : Nat} {done : List Nat} {y : Rl}
  (G : GAt h0 g L names nt rs) (S : SiH h0 hh N rs es line) (R : DRep rs es μ) (W : Wi rs nt (nulB found) masks μ0 μ line at_ r0 d0 m0 mask done) (hat : at_ ≤ line.length) (hy : rs[k]? = some y) (h60 : mask < 2 ^ 60)
  (hR : ItR rs μ0 k 0) (hB : ∀ b, mask.testBit b = true → ItB rs nt (nulB found) μ0 k 0 b) (hll : line.length + slackC rs.length μ ≤ 5000)
  (he : SubE (siF g bl nl fl N) e) (hat' : e .at_ = some (.int (at_ : Int))) (hmk : e .mask = some (.int (mask : Int))) {K : Env → MH → Prop} {P : V → Env → MH → Prop}
  (hK : ∀ e' h' es' line' μ', SubE (siF g bl nl fl N) e' → e' .at_ = some (.int (at_ : Int)) → e' .mask = some (.int (mask : Int)) → SiH h0 h' N rs es' line' → DRep rs es' μ' → Wi rs nt (nulB found) masks μ0 μ' line' at_ r0 d0 m0 mask (done ++ [k]) →
   line.length ≤ line'.length → line'.length + slackC rs.length μ' ≤ line.length + slackC rs.length μ → (∀ l, l ≠ N → l ≠ N + 1 → h'.get l = hh.get l) → K e' h') :
  wSs (CL prog (n + 1)) siBody (upd e .rule (.int (k : Int))) hh (fun fl e' h' => match fl with | .ret v => P v e' h' | _ => K e' h') := by
 have G1 := G.kp S.kp
 have hk := lt_of_get hy
 have hv : VP rs k 0 := ⟨y, hy, Nat.zero_le _⟩
 have he1 := he.upd (y := .rule) (w := .int (k : Int)) rfl
 unfold siBody
 refine sc_assign ?_
 dsimp only [EA,EB,EC,ED,EE,EF,EG,EH,EI,EJ,EK,EL,EM,EN,EO,EP,EQ,ER,ES,ET,EU,EV,EW,EX,EY,EZ,Ea,Eb,Ec,UA,UB]
 refine ⟨_, he1 .grammar _ rfl, ⟨_, _, rfl, G1.at_, G1.nonum⟩, _, rfl, sp_gitem (d := 0) G1 hy ?_⟩
 have he2 := he1.upd (y := .later) (w := .int (item rs k 0 : Nat)) rfl
 refine sc_assign ?_
 dsimp only [EA,EB,EC,ED,EE,EF,EG,EH,EI,EJ,EK,EL,EM,EN,EO,EP,EQ,ER,ES,ET,EU,EV,EW,EX,EY,EZ,Ea,Eb,Ec]
 refine ⟨_, he2 .found _ rfl, ⟨_, _, rfl, S.hd⟩, _, rfl, N, es, _, -1, ⟨rfl, rfl, rfl, S.hd⟩, ?_⟩
 rw [R.get k 0 hv]
 have grow : ∀ v : Nat, v = ((μ k 0).getD 0) ||| mask → (∀ m, μ k 0 = some m → cnt m < cnt v) → ∀ e4, SubE (siF g bl nl fl N) e4 → e4 .at_ = some (.int (at_ : Int)) → e4 .mask = some (.int (mask : Int)) → e4 .later = some (.int (item rs k 0 : Nat)) →
   ∀ ev : E, (∀ Q : V → MH → Prop, Q (.int (v : Int)) hh → wE (CL prog (n + 1)) ev e4 hh Q) → ∀ Pq : Fl → Env → MH → Prop, (∀ e' h', K e' h' → Pq .next e' h') →
   wSs (CL prog (n + 1)) (.cons (.setSub (.var .found) (.var .later) ev) (.cons (.expr (.append (.var .line) (.var .later))) .nil)) e4 hh Pq := by
  intro v hv1 hv2 e4 he4 ha4 hm4 hl4 ev hev Pq hPq
  dsimp only [UF,UG,YA,YB,YC,YD,YE,YF,YG,YH,YI,YJ,YK,YL,EA,EB,EC,ED,EE,EF,EG,EH,EI,EJ,EK,EL,EM,EN,EO,EP,EQ,ER,ES,ET,EU,EV,EW,EX,EY,EZ,Ea,Eb,Ec]
  refine hev _ ?_
  refine ⟨_, he4 .found _ rfl, _, hl4, .inr ⟨N, es, _, (v : Int), ⟨rfl, rfl, rfl, S.hd, by have := DRep.len G1 R; lia⟩, ?_⟩⟩
  have S2 := S.setD (dput es (item rs k 0 : Nat) (v : Int))
  have hlen : (itemsI rs line).length = line.length := by simp [itemsI]
  refine ⟨_, he4 .line _ rfl, ⟨_, _, rfl, S2.hl⟩, _, hl4, _, _, ⟨rfl, S2.hl, by rw [vInts_length, hlen]; simp only [room]; lia⟩, rfl, ?_⟩
  have S3 := S2.setN (line ++ [(k, 0)])
  have e1 : vInts (itemsI rs line) ++ [V.int ((item rs k 0 : Nat) : Int)] = vInts (itemsI rs (line ++ [(k, 0)])) := by simp [vInts, itemsI]
  rw [e1]
  have hs := slackC_put (n := rs.length) (μ := μ) hk hv2
  exact hPq _ _ (hK _ _ _ _ _ he4 ha4 hm4 S3 (R.put hv v) (W.grow hat hy hv1 h60 hR hB) (by simp) (by rw [List.length_append]; simp only [List.length_cons, List.length_nil]; lia) fun l h1 h2 => by rw [get_set_ne _ _ h2, get_set_ne _ _ h1])
 cases hq : μ k 0 with
 | none =>
  have he3 := he2.upd (y := .known) (w := .int (-1)) rfl
  simp only [Option.map_none, Option.getD_none]
  refine sc_if true (fun P q => ?_) ?_
  ·dsimp only [JA,JB,JC,JD,JE,JF,JG,EA,EB,EC,ED,EE,EF,EG,EH,EI,EJ,EK,EL,EM,EN,EO,EP,EQ,ER,ES,ET,EU,EV,EW,EX,EY,EZ,Ea,Eb,Ec]
   refine ⟨_, rfl, true, rfl, ?_⟩
   exact q
  ·refine grow mask (by rw [hq]; simp) (fun m hm => by rw [hq] at hm; cases hm) _ he3 hat' hmk rfl _ (fun Q q => ?_) _ fun e' h' q => q
   dsimp only [EA,EB,EC,ED,EE,EF,EG,EH,EI,EJ,EK,EL,EM,EN,EO,EP,EQ,ER,ES,ET,EU,EV,EW,EX,EY,EZ,Ea,Eb,Ec,JA,JB,JC,JD,JE,JF,JG]
   refine ⟨_, rfl, true, rfl, ?_⟩
   exact ⟨_, hmk, q⟩
 | some m =>
  have he3 := he2.upd (y := .known) (w := .int (m : Int)) rfl
  simp only [Option.map_some, Option.getD_some]
  have hn1 : ∀ Q : Bool → Prop, Q false → cmpop .eq (.int (m : Int)) (.int (-1)) hh Q := fun Q q => ⟨false, by show some (decide ((m : Int) = -1)) = _; rw [decide_eq_false (by lia)], q⟩
  refine sc_if (!decide (m ||| mask = m)) (fun P q => ?_) ?_
  ·dsimp only [JA,JB,JC,JD,JE,JF,JG,EA,EB,EC,ED,EE,EF,EG,EH,EI,EJ,EK,EL,EM,EN,EO,EP,EQ,ER,ES,ET,EU,EV,EW,EX,EY,EZ,Ea,Eb,Ec]
   refine ⟨_, rfl, hn1 _ ?_⟩
   refine (if_neg (c := false = true) (by simp)).mpr ?_
   refine ⟨_, rfl, _, hmk, m, mask, ⟨rfl, rfl⟩, _, rfl, _, rfl, ?_⟩
   have : decide (((m ||| mask : Nat) : Int) = (m : Int)) = decide (m ||| mask = m) := decide_eq_decide.mpr (by lia)
   rw [this]; exact q
  ·by_cases hs : m ||| mask = m
   ·rw [if_neg (by simpa using hs)]
    exact hK _ _ _ _ _ he3 hat' hmk S R (W.same hq hs) (Nat.le_refl _) (Nat.le_refl _) fun _ _ _ => rfl
   ·rw [if_pos (by simpa using hs)]
    refine grow (m ||| mask) (by rw [hq]; rfl) (fun m' hm' => by rw [hq] at hm'; cases hm'; exact cnt_lt (W.snd k 0 m hq).2.2.2 h60 hs) _ he3 hat' hmk rfl _ (fun Q q => ?_) _ fun e' h' q => q
    dsimp only [EA,EB,EC,ED,EE,EF,EG,EH,EI,EJ,EK,EL,EM,EN,EO,EP,EQ,ER,ES,ET,EU,EV,EW,EX,EY,EZ,Ea,Eb,Ec,JA,JB,JC,JD,JE,JF,JG]
    refine ⟨_, rfl, hn1 _ ?_⟩
    exact ⟨_, rfl, _, hmk, m, mask, ⟨rfl, rfl⟩, q⟩
end
end Mine
end
section
namespace Mine
section
variable {h : MH} {g : Nat} {L : Loc} {names : List Nm} {nt : Nat} {rs : List Rl} {n : Nat} {C : CS}
theorem line_init {es : List (Int × Int)} {μ : Mp} (R : DRep rs es μ) : ∃ line : List (Nat × Nat), (sortInt (es.map (·.1))).map V.int = vInts (itemsI rs line) ∧ (∀ p ∈ line, (μ p.1 p.2).isSome = true) ∧ (∀ r d, (μ r d).isSome = true → (r, d) ∈ line) ∧ line.length = es.length := by
 have h1 : ∀ k ∈ sortInt (es.map (·.1)), ∃ r d, k = ((item rs r d : Nat) : Int) ∧ (μ r d).isSome = true := fun k hk => by
  have := (sortInt_perm _).mem_iff.mp hk
  obtain ⟨p, hp, rfl⟩ := List.mem_map.mp this
  obtain ⟨r, d, m, hv, rfl, hm⟩ := R.keys p hp
  exact ⟨r, d, rfl, by rw [hm]; rfl⟩
 have h2 : ∀ ks : List Int, (∀ k ∈ ks, ∃ r d, k = ((item rs r d : Nat) : Int) ∧ (μ r d).isSome = true) → ∃ line : List (Nat × Nat), ks = line.map (fun p => ((item rs p.1 p.2 : Nat) : Int)) ∧ ∀ p ∈ line, (μ p.1 p.2).isSome = true := by
  intro ks
  induction ks with
  | nil => intro _; exact ⟨[], rfl, fun _ hp => by simp at hp⟩
  | cons k ks ih =>
   intro hk
   obtain ⟨r, d, rfl, hs⟩ := hk k (.head _)
   obtain ⟨line, rfl, hl⟩ := ih fun k hk' => hk k (.tail _ hk')
   exact ⟨(r, d) :: line, rfl, fun p hp => by
    rcases List.mem_cons.mp hp with rfl | hp
    ·exact hs
    ·exact hl p hp⟩
 obtain ⟨line, e, hl⟩ := h2 _ h1
 refine ⟨line, by rw [e]; simp [vInts, itemsI], hl, fun r d hs => ?_, ?_⟩
 ·obtain ⟨m, hm⟩ := Option.isSome_iff_exists.mp hs
  have hv := R.vp r d m hm
  have hg := R.get r d hv
  rw [hm] at hg
  have hmem := (dget_mem R.nd).mp hg
  have hk : ((item rs r d : Nat) : Int) ∈ sortInt (es.map (·.1)) := (sortInt_perm _).mem_iff.mpr (List.mem_map_of_mem (f := (·.1)) hmem)
  rw [e] at hk
  obtain ⟨p, hp, hpe⟩ := List.mem_map.mp hk
  obtain ⟨m', hm'⟩ := Option.isSome_iff_exists.mp (hl p hp)
  obtain ⟨x, hx, hd⟩ := hv
  obtain ⟨x', hx', hd'⟩ := R.vp _ _ _ hm'
  have := item_inj hx' hx hd' hd (by exact_mod_cast hpe)
  rw [← this.1, ← this.2]; exact hp
 ·have := congrArg List.length e
  rw [(sortInt_perm _).length_eq, List.length_map, List.length_map] at this
  exact this.symm
theorem mem_rulesOf {s k : Nat} : k ∈ rulesOf rs s ↔ ∃ y, rs[k]? = some y ∧ y.1 = s := by
 unfold rulesOf
 rw [List.mem_filter, List.mem_range]
 constructor
 ·rintro ⟨h1, h2⟩
  rw [List.getElem?_eq_getElem h1] at h2
  exact ⟨rs[k], List.getElem?_eq_getElem h1, by simpa using h2⟩
 ·rintro ⟨y, hy, rfl⟩
  exact ⟨lt_of_get hy, by rw [hy]; simp⟩
inductive SpW (h : MH) (g bl nl fl nt : Nat) (rs : List Rl) (found : List Bool) (masks : List Nat) (μ0 : Mp) (m : Nat) (e3 : Env) (h3 : MH) : Prop
 | mk (at_ : Nat) (es : List (Int × Int)) (line : List (Nat × Nat)) (μ : Mp) (hm : m = (line.length - at_) + slackC rs.length μ) (he : SubE (siF g bl nl fl h.nxt) e3) (ha : e3 .at_ = some (.int (at_ : Int)))
  (S : SiH h h3 h.nxt rs es line) (R : DRep rs es μ) (W : Wk rs nt (nulB found) masks μ0 μ line at_) (hle : at_ ≤ line.length) (hll : line.length + slackC rs.length μ ≤ 4000)
inductive SpE (h : MH) (g bl nl fl nt : Nat) (rs : List Rl) (found : List Bool) (masks : List Nat) (μ0 μ : Mp) (line : List (Nat × Nat)) (at_ r0 d0 m0 mask s n3 : Nat) (j : Nat) (e9 : Env) (h9 : MH) : Prop
 | mk (es' : List (Int × Int)) (line' : List (Nat × Nat)) (μ' : Mp) (he : SubE (siF g bl nl fl h.nxt) e9) (ha : e9 .at_ = some (.int ((at_ + 1 : Nat) : Int))) (hm : e9 .mask = some (.int (mask : Int)))
  (S : SiH h h9 h.nxt rs es' line') (R : DRep rs es' μ') (W : Wi rs nt (nulB found) masks μ0 μ' line' (at_ + 1) r0 d0 m0 mask ((rulesOf rs s).take j)) (hl : line.length ≤ line'.length)
  (hs : line'.length + slackC rs.length μ' ≤ line.length + slackC rs.length μ) (hg : h9.get n3 = some (.list (vInts (rulesOf rs s))))
theorem sp_spread_items {bl nl fl : Nat} {es0 : List (Int × Int)} {μ0 : Mp} {found : List Bool} {masks : List Nat} {Q : V → MH → Prop} (w : Wf h) (G : GAt h g L names nt rs) (hnt : nt < 60)
  (hb : h.get bl = some (.dict es0)) (R0 : DRep rs es0 μ0) (hlen : es0.length < 64) (h60 : ∀ r d m, μ0 r d = some m → m < 2 ^ 60)
  (hn : h.get nl = some (.list (found.map V.bool))) (hN : NulL rs names.length found) (hf : h.get fl = some (.list (vInts masks))) (hM : MaskOk rs nt names.length (nulB found) masks) (hml : ∀ m ∈ masks, m < 2 ^ 60)
  (q : ∀ h' N es μ, Kp h h' → h'.get N = some (.dict es) → DRep rs es μ → MapOk rs nt (nulB found) μ0 μ → Q (.loc N) h') : CL prog (n + 2) .spread_items [.loc g, .loc bl, .loc nl, .loc fl] h Q := by
 have hns := G.nnames
 have hnr := G.nrs
 refine ⟨_, rfl, ?_⟩
 show wSs (CL prog (n + 1)) body_spread_items _ h _
 unfold body_spread_items
 refine sc_assign ?_
 dsimp only [EA,EB,EC,ED,EE,EF,EG,EH,EI,EJ,EK,EL,EM,EN,EO,EP,EQ,ER,ES,ET,EU,EV,EW,EX,EY,EZ,Ea,Eb,Ec]
 refine ⟨_, rfl, .inl ⟨bl, es0, ⟨rfl, hb, by lia⟩, ?_⟩⟩
 have k1 := (Ke.refl (W := NoW) w).new (.dict es0)
 refine sc_assign ?_
 dsimp only [EA,EB,EC,ED,EE,EF,EG,EH,EI,EJ,EK,EL,EM,EN,EO,EP,EQ,ER,ES,ET,EU,EV,EW,EX,EY,EZ,Ea,Eb,Ec]
 refine ⟨_, rfl, bl, es0, ⟨rfl, get_new_of w _ hb, hlen⟩, ?_⟩
 obtain ⟨line0, hl0, hl1, hl2, hl3⟩ := line_init R0
 rw [hl0]
 have k2 := k1.new (.list (vInts (itemsI rs line0)))
 have S : SiH h ((h.new (.dict es0)).new (.list (vInts (itemsI rs line0)))) h.nxt rs es0 line0 := ⟨w, k2, Nat.le_refl _, Nat.le_refl _, get_new_of k1.wf _ (get_new ..), get_new ..⟩
 have he : SubE (siF g bl nl fl h.nxt) (upd (upd (upd (upd (upd (upd env0 .firsts (.loc fl)) .nullables (.loc nl)) .begins (.loc bl)) .grammar (.loc g)) .found (.loc h.nxt)) .line (.loc (h.new (.dict es0)).nxt)) := .cons (.cons (.cons (.cons (.cons (.cons .nil rfl) rfl) rfl) rfl) rfl) rfl
 generalize (h.new (.dict es0)).new (.list (vInts (itemsI rs line0))) = h2 at S
 refine sc_assign ?_
 dsimp only [EA,EB,EC,ED,EE,EF,EG,EH,EI,EJ,EK,EL,EM,EN,EO,EP,EQ,ER,ES,ET,EU,EV,EW,EX,EY,EZ,Ea,Eb,Ec]
 refine sc_while ?_
 have W0 : Wk rs nt (nulB found) masks μ0 μ0 line0 0 :=
  ⟨⟨fun r d m hm => ⟨R0.vp r d m hm, .base hm, fun b hb => .base hm hb, h60 r d m hm⟩, hl1, fun r d m hm => ⟨m, hm, fun _ z => z⟩⟩, fun r d hs => .inl (by rw [List.drop_zero]; exact hl2 r d hs)⟩
 have hsl := slackC_le μ0 rs.length
 refine while_inv (SpW h g bl nl fl nt rs found masks μ0) ?_ ⟨0, es0, line0, μ0, rfl, he.upd rfl, rfl, S, R0, W0, Nat.zero_le _, by lia⟩
 rintro m e3 h3 ⟨at_, es, line, μ, rfl, he3, hat, S3, R3, W3, hle, hll⟩ K hK
 have hil : (itemsI rs line).length = line.length := by simp [itemsI]
 dsimp only [JA,JB,JC,JD,JE,JF,JG,EA,EB,EC,ED,EE,EF,EG,EH,EI,EJ,EK,EL,EM,EN,EO,EP,EQ,ER,ES,ET,EU,EV,EW,EX,EY,EZ,Ea,Eb,Ec]
 refine ⟨_, hat, _, he3 .line _ rfl, r_lenL S3.hl (by rw [vInts_length, hil]; simp only [room]; lia) ?_⟩
 rw [vInts_length, hil]
 by_cases hlt : at_ < line.length
 ·refine (if_pos (c := decide ((at_ : Int) < (line.length : Int)) = true) (by simpa using hlt)).mpr ?_
  obtain ⟨r0, d0, hp⟩ : ∃ r0 d0, line[at_]? = some (r0, d0) := ⟨_, _, List.getElem?_eq_getElem hlt⟩
  have hs0 := W3.mem _ (List.mem_of_getElem? hp)
  obtain ⟨m0, hm0⟩ := Option.isSome_iff_exists.mp hs0
  obtain ⟨⟨x, hx, hd⟩, hIt, hBt, hm60⟩ := W3.snd r0 d0 m0 hm0
  have G3 := G.kp S3.kp
  refine sc_assign ?_
  dsimp only [EA,EB,EC,ED,EE,EF,EG,EH,EI,EJ,EK,EL,EM,EN,EO,EP,EQ,ER,ES,ET,EU,EV,EW,EX,EY,EZ,Ea,Eb,Ec]
  refine ⟨_, he3 .line _ rfl, _, hat, r_get S3.hl (by lia) (vInts_at (n := item rs r0 d0) (by unfold itemsI; rw [List.getElem?_map, hp]; rfl)) ?_⟩
  have he4 := he3.upd (y := .item) (w := .int (item rs r0 d0 : Nat)) rfl
  refine sc_assign ?_
  dsimp only [EA,EB,EC,ED,EE,EF,EG,EH,EI,EJ,EK,EL,EM,EN,EO,EP,EQ,ER,ES,ET,EU,EV,EW,EX,EY,EZ,Ea,Eb,Ec]
  refine ⟨_, hat, ?_⟩
  dsimp only [binop, onI, onW, addW, mulW]
  have hat1 : ((at_ : Int) + 1) = ((at_ + 1 : Nat) : Int) := by lia
  rw [hat1]
  have he5 := he4.upd (y := .at_) (w := .int ((at_ + 1 : Nat) : Int)) rfl
  refine sc_assign ?_
  dsimp only [EA,EB,EC,ED,EE,EF,EG,EH,EI,EJ,EK,EL,EM,EN,EO,EP,EQ,ER,ES,ET,EU,EV,EW,EX,EY,EZ,Ea,Eb,Ec,UA,UB]
  refine ⟨_, he5 .grammar _ rfl, ⟨_, _, rfl, G3.at_, G3.nonum⟩, _, rfl, sp_after G3 hx hd ?_⟩
  have skip : Cls rs (nulB found) masks μ r0 d0 → ∀ e', SubE (siF g bl nl fl h.nxt) e' → e' .at_ = some (.int ((at_ + 1 : Nat) : Int)) → K e' h3 := fun hc e' he' ha' =>
   hK ((line.length - (at_ + 1)) + slackC rs.length μ) _ _ (by lia) ⟨at_ + 1, es, line, μ, rfl, he', ha', S3, R3, W3.skip hp hc, by lia, hll⟩
  cases hxs : x.2[d0]? with
  | none =>
   have he6 := he5.upd (y := .symbol) (w := .int (-1)) rfl
   refine sc_if true (fun P pq => ?_) ?_
   ·dsimp only [JA,JB,JC,JD,JE,JF,JG,EA,EB,EC,ED,EE,EF,EG,EH,EI,EJ,EK,EL,EM,EN,EO,EP,EQ,ER,ES,ET,EU,EV,EW,EX,EY,EZ,Ea,Eb,Ec]
    refine ⟨_, rfl, ?_⟩
    exact pq
   ·rw [if_pos rfl]
    dsimp only [UF,UG,YA,YB,YC,YD,YE,YF,YG,YH,YI,YJ,YK,YL]
    exact skip (fun x' u hx' hu => by rw [hx] at hx'; cases hx'; rw [hxs] at hu; cases hu) _ he6 rfl
  | some s =>
   have he6 := he5.upd (y := .symbol) (w := .int (s : Int)) rfl
   have hxm := List.mem_of_getElem? hx
   have hsl2 := (G.right x hxm).2 s (List.mem_of_getElem? hxs)
   have hx8 := (G.right x hxm).1
   refine sc_if (decide (s < nt)) (fun P pq => ?_) ?_
   ·dsimp only [JA,JB,JC,JD,JE,JF,JG,EA,EB,EC,ED,EE,EF,EG,EH,EI,EJ,EK,EL,EM,EN,EO,EP,EQ,ER,ES,ET,EU,EV,EW,EX,EY,EZ,Ea,Eb,Ec,UA,UB]
    refine ⟨_, rfl, ?_⟩
    refine (if_neg (c := decide ((s : Int) < 0) = true) (t := P true h3) (by simp)).mpr ?_
    exact ⟨_, he6 .grammar _ rfl, ⟨_, _, rfl, G3.at_, G3.nonum⟩, _, rfl, sp_is_terminal G3 ⟨_, rfl, pq⟩⟩
   ·by_cases hst : s < nt
    ·rw [if_pos (by simpa using hst)]
     dsimp only [UF,UG,YA,YB,YC,YD,YE,YF,YG,YH,YI,YJ,YK,YL]
     exact skip (fun x' u hx' hu r' y hy hey => by
      rw [hx] at hx'; cases hx'; rw [hxs] at hu; cases hu
      have := (G.left y (List.mem_of_getElem? hy)).2; lia) _ he6 rfl
    ·rw [if_neg (by simpa using hst)]
     show wSs _ _ _ _ _
     obtain ⟨l, hl, fs, q1, q2, q3, q4⟩ := G_rule G3 hx
     refine sc_assign ?_
     dsimp only [EA,EB,EC,ED,EE,EF,EG,EH,EI,EJ,EK,EL,EM,EN,EO,EP,EQ,ER,ES,ET,EU,EV,EW,EX,EY,EZ,Ea,Eb,Ec,UA,UB]
     refine ⟨_, he6 .grammar _ rfl, r_attr G3.at_ rfl G3.frules ⟨_, he6 .grammar _ rfl, ⟨_, _, rfl, G3.at_, G3.nonum⟩, _, rfl, sp_rule_of G3 hx hd (r_get (v := .loc l) G3.hrules (r_small G3 hx) (vals_at hl) (r_attr q1 rfl q4 ?_))⟩⟩
     have he7 := he6.upd (y := .right) (w := .tup (x.2.map fun n : Nat => W.int (n : Int))) rfl
     have hdl : d0 < x.2.length := lt_of_get hxs
     dsimp only [UF,UG,YA,YB,YC,YD,YE,YF,YG,YH,YI,YJ,YK,YL,EA,EB,EC,ED,EE,EF,EG,EH,EI,EJ,EK,EL,EM,EN,EO,EP,EQ,ER,ES,ET,EU,EV,EW,EX,EY,EZ,Ea,Eb,Ec,UA,UB]
     refine ⟨_, rfl, _, he7 .grammar _ rfl, ⟨_, _, rfl, G3.at_, G3.nonum⟩, _, rfl, sp_dot_of G3 hx hd ?_⟩
     dsimp only [binop, onI, onW, addW, mulW]
     refine ⟨⟨by lia, by simp; lia, by simp only [room, List.length_map]; lia⟩, _, he7 .nullables _ rfl, _, he7 .firsts _ rfl, ?_⟩
     have ed : (x.2.map fun n : Nat => W.int (n : Int)).drop ((d0 : Int) + 1).toNat = (x.2.drop (d0 + 1)).map fun n : Nat => W.int (n : Int) := by
      rw [show ((d0 : Int) + 1).toNat = d0 + 1 by lia, List.map_drop]
     rw [ed]
     have hin : ∀ t ∈ x.2.drop (d0 + 1), t < names.length := fun t ht => (G.right x hxm).2 t (List.mem_of_mem_drop ht)
     refine sp_first_of (S3.kp.get hn) (S3.kp.get hf) (fun t ht => by rw [hN.1]; exact hin t ht) (fun t ht => by rw [hM.1]; exact hin t ht) (by rw [hN.1]; lia) ?_
     refine ⟨_, _, ⟨rfl, rfl⟩, ?_⟩
     have hA60 : orMask masks (ahead (nulB found) (x.2.drop (d0 + 1))).1 < 2 ^ 60 := orMask_lt hml
     generalize hA : orMask masks (ahead (nulB found) (x.2.drop (d0 + 1))).1 = A at hA60
     generalize hO : (ahead (nulB found) (x.2.drop (d0 + 1))).2 = O
     have go : ∀ (mask : Nat) (e8 : Env), mask = (if O = true then A ||| m0 else A) → SubE (siF g bl nl fl h.nxt) e8 → e8 .at_ = some (.int ((at_ + 1 : Nat) : Int)) → e8 .mask = some (.int (mask : Int)) → e8 .symbol = some (.int (s : Int)) →
       wSs (CL prog (n + 1)) (.cons (.for_ [.rule] (.seq (.meth .rules_of (.var .grammar) (.cons (.var .symbol) .nil))) siBody) .nil) e8 h3 (fun fl e' h' => match fl with | .ret v => Q v h' | _ => K e' h') := by
      intro mask e8 hmask he8 ha8 hm8 hs8
      have hmask60 : mask < 2 ^ 60 := by rw [hmask]; split; exact or_lt hA60 hm60; exact hA60
      refine sc_for ?_
      dsimp only [UC,UD,UE,EA,EB,EC,ED,EE,EF,EG,EH,EI,EJ,EK,EL,EM,EN,EO,EP,EQ,ER,ES,ET,EU,EV,EW,EX,EY,EZ,Ea,Eb,Ec,UA,UB]
      refine ⟨_, he8 .grammar _ rfl, ⟨_, _, rfl, G3.at_, G3.nonum⟩, _, hs8, sp_rules_of G3 hsl2 ?_⟩
      have kn : Kp h3 (h3.new (.list (vInts (rulesOf rs s)))) := (Ke.refl S3.kp.wf).new _
      have S4 := S3.kpN kn
      have hrl : (h3.new (.list (vInts (rulesOf rs s)))).get h3.nxt = some (.list (vInts (rulesOf rs s))) := get_new ..
      have W4 := W3.enter (mask := mask) hp hm0
      have hnew : h.nxt + 2 ≤ h3.nxt := S3.lt
      refine for_seq (vs := vInts (rulesOf rs s)) (SpE h g bl nl fl nt rs found masks μ0 μ line at_ r0 d0 m0 mask s h3.nxt) ?_ ?_ ?_
        ⟨es, line, μ, he8, ha8, hm8, S4, R3, W4, Nat.le_refl _, Nat.le_refl _, hrl⟩
      ·rintro j e9 h9 ⟨_, _, _, _, _, _, _, _, _, _, _, hg9⟩
       simp only [items, hg9]
      ·rintro j e9 h9 v hv ⟨es', line', μ', he9, ha9, hm9, S9, R9, W9, hl9, hs9, hg9⟩
       obtain ⟨k, hk, rfl⟩ : ∃ k, (rulesOf rs s)[j]? = some k ∧ V.int (k : Int) = v := map_at hv
       obtain ⟨y, hy, hys⟩ := mem_rulesOf.mp (List.mem_of_getElem? hk)
       refine ⟨_, rfl, fun K' hK' => ?_⟩
       have hR : ItR rs μ0 k 0 := .step hIt hx hxs hy hys
       have hF : ∀ b, A.testBit b = true → ItB rs nt (nulB found) μ0 k 0 b := fun b hb => by
        rw [← hA] at hb
        obtain ⟨t, ht, htb⟩ := (orMask_bit _ _ _).mp hb
        exact .first hIt hx hxs hy hys ht ((hM.2 t b (hin t (ahead_sub ht))).mp htb)
       have hB : ∀ b, mask.testBit b = true → ItB rs nt (nulB found) μ0 k 0 b := fun b hb => by
        rw [hmask] at hb
        cases O with
        | true =>
         rw [if_pos rfl, Nat.testBit_or, Bool.or_eq_true] at hb
         rcases hb with hb | hb
         ·exact hF b hb
         ·exact .pass (hBt b hb) hx hxs hy hys hO
        | false => rw [if_neg (by simp)] at hb; exact hF b hb
       refine si_turn (g := g) (bl := bl) (nl := nl) (fl := fl) G S9 R9 W9 (by lia) hy hmask60 hR hB (by lia) he9 ha9 hm9 fun e10 h10 es10 l10 μ10 b1 b2 b3 b4 b5 b6 b7 b8 b9 => hK' _ _ ⟨es10, l10, μ10, b1, b2, b3, b4, b5, ?_, by lia, by lia, ?_⟩
       ·rw [List.take_add_one, hk]; exact b6
       ·rw [b9 _ (by lia) (by lia)]; exact hg9
      ·rintro e9 h9 ⟨es', line', μ', he9, ha9, hm9, S9, R9, W9, hl9, hs9, hg9⟩
       rw [vInts_length, List.take_length] at W9
       dsimp only [UF,UG]
       have W10 := W9.close hx hxs (by rw [hmask, ← hA, hO]) fun k y hy hey => mem_rulesOf.mpr ⟨y, hy, hey⟩
       exact hK ((line'.length - (at_ + 1)) + slackC rs.length μ') _ _ (by lia) ⟨at_ + 1, es', line', μ', rfl, he9, ha9, S9, R9, W10, by lia, by lia⟩
     cases O with
     | false =>
      have := go A _ (by simp) ((he7.upd (y := .mask) (w := .int (A : Int)) rfl).upd (y := .is_open) (w := .bool false) rfl) rfl rfl rfl
      simp only [UF,UG,YA,YB,YC,YD,YE,YF,YG,YH,YI,YJ,YK,YL] at this
      refine ⟨_, rfl, false, rfl, ?_⟩
      exact this
     | true =>
      have he9 := (he7.upd (y := .mask) (w := .int (A : Int)) rfl).upd (y := .is_open) (w := .bool true) rfl
      have := go (A ||| m0) _ (by simp) (he9.upd (y := .mask) (w := .int ((A ||| m0 : Nat) : Int)) rfl) rfl rfl rfl
      simp only [UF,UG,YA,YB,YC,YD,YE,YF,YG,YH,YI,YJ,YK,YL] at this
      refine ⟨_, rfl, true, rfl, ?_⟩
      refine ⟨_, rfl, _, he9 .found _ rfl, _, rfl, .inr (.inl ⟨es, _, _, ⟨S3.hd, rfl, by rw [R3.get r0 d0 ⟨x, hx, hd⟩, hm0]; rfl⟩, ?_⟩)⟩
      exact ⟨A, m0, ⟨rfl, rfl⟩, this⟩
 ·refine (if_neg (c := decide ((at_ : Int) < (line.length : Int)) = true) (by simpa using hlt)).mpr ?_
  refine sc_ret ?_
  dsimp only [EA,EB,EC,ED,EE,EF,EG,EH,EI,EJ,EK,EL,EM,EN,EO,EP,EQ,ER,ES,ET,EU,EV,EW,EX,EY,EZ,Ea,Eb,Ec]
  exact ⟨_, he3 .found _ rfl, q _ _ _ _ S3.kp S3.hd R3 (W3.fin (by lia) fun x s b hx hs => hM.2 s b ((G.right x hx).2 s hs))⟩
end
end Mine
end
section
namespace Mine
abbrev Pr := Nm × List Nm
noncomputable def vStrs (ns : List Nm) : List V := ns.map V.str
theorem vStrs_length (ns : List Nm) : (vStrs ns).length = ns.length := by simp [vStrs]
theorem vStrs_at {ns : List Nm} {i : Nat} {x : Nm} (h : ns[i]? = some x) : (vStrs ns)[i]? = some (V.str x) := vals_at h
structure PAt (h : MH) (l : Nat) (ps : List Pr) (ks : List Nat) : Prop where
 at_ : h.get l = some (.list ((ps.zip ks).map fun x => V.tup [.str x.1.1, .loc x.2]))
 len : ks.length = ps.length
 part : ∀ (i : Nat) p k, ps[i]? = some p → ks[i]? = some k → h.get k = some (.list (vStrs p.2))
theorem PAt.kp {h h' : MH} {l : Nat} {ps : List Pr} {ks : List Nat} (P : PAt h l ps ks) (k : Kp h h') : PAt h' l ps ks :=
 ⟨k.get P.at_, P.len, fun i p q h1 h2 => k.get (P.part i p q h1 h2)⟩
inductive PGet (h : MH) (ps : List Pr) (ks : List Nat) (i : Nat) (v : V) : Prop
 | mk (p : Pr) (k : Nat) (hp : ps[i]? = some p) (hk : ks[i]? = some k) (hv : v = V.tup [.str p.1, .loc k]) (hg : h.get k = some (.list (vStrs p.2)))
theorem PAt.get {h : MH} {l : Nat} {ps : List Pr} {ks : List Nat} (P : PAt h l ps ks) {i : Nat} {v : V} (hv : ((ps.zip ks).map fun x => V.tup [.str x.1.1, .loc x.2])[i]? = some v) :
  PGet h ps ks i v := by
 rw [List.getElem?_map] at hv
 cases hq : (ps.zip ks)[i]? with
 | none => rw [hq] at hv; cases hv
 | some x =>
  rw [hq] at hv; cases hv
  obtain ⟨h1, h2⟩ := List.getElem?_zip_eq_some.mp hq
  exact ⟨x.1, x.2, h1, h2, rfl, P.part i _ _ h1 h2⟩
theorem PAt.zlen {h : MH} {l : Nat} {ps : List Pr} {ks : List Nat} (P : PAt h l ps ks) : ((ps.zip ks).map fun x => V.tup [.str x.1.1, .loc x.2]).length = ps.length := by
 rw [List.length_map, List.length_zip, P.len, Nat.min_self]
theorem PAt.put {h : MH} {l : Nat} {ps : List Pr} {ks : List Nat} (P : PAt h l ps ks) {i : Nat} {p : Pr} (hp : ps[i]? = some p) : ∃ k, ks[i]? = some k ∧ ((ps.zip ks).map fun x => V.tup [.str x.1.1, .loc x.2])[i]? = some (V.tup [.str p.1, .loc k]) ∧ h.get k = some (.list (vStrs p.2)) := by
 have hlt : i < ks.length := by rw [P.len]; exact lt_of_get hp
 have hk : ks[i]? = some ks[i] := List.getElem?_eq_getElem hlt
 refine ⟨ks[i], hk, ?_, P.part i p _ hp hk⟩
 have hz : (ps.zip ks)[i]? = some (p, ks[i]) := List.getElem?_zip_eq_some.mpr ⟨hp, hk⟩
 rw [List.getElem?_map, hz]; rfl
noncomputable def memB (e : List Nm) (x : Nm) : Bool := decide (x ∈ e)
section
variable {h : MH} {n : Nat} {C : CS}
inductive AhI (h : MH) (el : Nat) (emp parts : List Nm) (j : Nat) (e' : Env) (h' : MH) : Prop
 | mk (k : Kp h h') (e1 : e' .empty = some (.loc el)) (g : ∃ N, e' .found = some (.loc N) ∧ h'.get N = some (.list (vStrs (parts.take j)))) (hm : ∀ x ∈ parts.take j, memB emp x = true)
theorem sp_ahead {pl el : Nat} {parts emp : List Nm} {Q : V → MH → Prop} (w : Wf h) (hp : h.get pl = some (.list (vStrs parts))) (he : h.get el = some (.list (vStrs emp))) (hlen : parts.length ≤ 1000)
  (q : ∀ h' N, Kp h h' → h'.get N = some (.list (vStrs (ahead (memB emp) parts).1)) → Q (.tup [.loc N, .bool (ahead (memB emp) parts).2]) h') : CL prog (n + 1) .law_ahead [.loc pl, .loc el] h Q := by
 refine ⟨_, rfl, ?_⟩
 show wSs (CL prog n) body_law_ahead _ h _
 unfold body_law_ahead
 refine sc_assign ?_
 dsimp only [EA,EB,EC,ED,EE,EF,EG,EH,EI,EJ,EK,EL,EM,EN,EO,EP,EQ,ER,ES,ET,EU,EV,EW,EX,EY,EZ,Ea,Eb,Ec,UA,UB]
 refine ⟨by simp, ?_⟩
 have k1 := (Ke.refl (W := NoW) w).new (.list [])
 refine sc_for ?_
 dsimp only [UC,UD,UE,EA,EB,EC,ED,EE,EF,EG,EH,EI,EJ,EK,EL,EM,EN,EO,EP,EQ,ER,ES,ET,EU,EV,EW,EX,EY,EZ,Ea,Eb,Ec]
 refine ⟨_, rfl, ?_⟩
 refine for_seq (vs := vStrs parts) (AhI h el emp parts) ?_ ?_ ?_
  ⟨k1, rfl, ⟨_, rfl, get_new ..⟩, by simp⟩
 ·rintro j e' h' ⟨k, _⟩
  simp only [items, k.get hp]
 ·rintro j e' h' v hv ⟨k, e1, ⟨N, e2, e3⟩, e4⟩
  obtain ⟨x, hx, rfl⟩ : ∃ x, parts[j]? = some x ∧ V.str x = v := map_at hv
  refine ⟨_, rfl, fun K hK => ?_⟩
  refine sc_assign ?_
  dsimp only [EA,EB,EC,ED,EE,EF,EG,EH,EI,EJ,EK,EL,EM,EN,EO,EP,EQ,ER,ES,ET,EU,EV,EW,EX,EY,EZ,Ea,Eb,Ec,UA,UB]
  refine ⟨_, e2, _, rfl, by simp, ?_⟩
  have k2 := k.new (.list [V.str x])
  have hjl := List.length_take_le' j parts
  refine ⟨vStrs (parts.take j), [V.str x], ⟨get_new_of k.wf _ e3, get_new .., by rw [vStrs_length]; simp only [room, List.length_cons, List.length_nil]; lia⟩, ?_⟩
  have k3 := k2.new (.list (vStrs (parts.take j) ++ [V.str x]))
  have et : vStrs (parts.take j) ++ [V.str x] = vStrs (parts.take (j + 1)) := by rw [List.take_add_one, hx]; simp [vStrs]
  rw [et] at k3 ⊢
  have hN : ((h'.new (.list [V.str x])).new (.list (vStrs (parts.take (j + 1))))).get (h'.new (.list [V.str x])).nxt = some (.list (vStrs (parts.take (j + 1)))) := get_new ..
  generalize (h'.new (.list [V.str x])).new (.list (vStrs (parts.take (j + 1)))) = h4 at k3 hN
  generalize (h'.new (.list [V.str x])).nxt = N4 at hN ⊢
  refine sc_if (!memB emp x) (fun P pq => ?_) ?_
  ·dsimp only [JA,JB,JC,JD,JE,JF,JG,EA,EB,EC,ED,EE,EF,EG,EH,EI,EJ,EK,EL,EM,EN,EO,EP,EQ,ER,ES,ET,EU,EV,EW,EX,EY,EZ,Ea,Eb,Ec]
   refine ⟨_, rfl, _, e1, _, _, ⟨Kp.get k3 he, vin_strs x emp⟩, pq⟩
  ·cases hm : memB emp x with
   | false =>
    rw [if_pos (by simp)]
    dsimp only [UF,UG,YA,YB,YC,YD,YE,YF,YG,YH,YI,YJ,YK,YL,EA,EB,EC,ED,EE,EF,EG,EH,EI,EJ,EK,EL,EM,EN,EO,EP,EQ,ER,ES,ET,EU,EV,EW,EX,EY,EZ,Ea,Eb,Ec,UA,UB]
    refine ⟨_, rfl, [_, _], ⟨rfl, by simp⟩, ?_⟩
    have hsplit : parts = parts.take j ++ x :: parts.drop (j + 1) := by
     conv => lhs; rw [← List.take_append_drop j parts]
     congr 1
     rw [List.drop_eq_getElem_cons (lt_of_get hx)]
     congr 1
     rw [List.getElem?_eq_getElem (lt_of_get hx)] at hx
     exact Option.some.inj hx
    have h0 := ahead_stop (f := memB emp) (ys := parts.drop (j + 1)) e4 hm
    rw [← hsplit] at h0
    have e5 : parts.take j ++ [x] = parts.take (j + 1) := by rw [List.take_add_one, hx]; rfl
    rw [e5] at h0
    have := q h4 N4 k3 (by rw [h0]; exact hN)
    rw [h0] at this
    exact this
   | true =>
    rw [if_neg (by simp)]
    refine hK _ _ ⟨k3, e1, ⟨N4, rfl, hN⟩, fun y hy => ?_⟩
    rw [List.take_add_one, hx] at hy
    rcases List.mem_append.mp hy with hy | hy
    ·exact e4 y hy
    ·simp at hy; subst hy; exact hm
 ·rintro e' h' ⟨k, e1, ⟨N, e2, e3⟩, e4⟩
  rw [vStrs_length, List.take_length] at e3 e4
  dsimp only [UF,UG,YA,YB,YC,YD,YE,YF,YG,YH,YI,YJ,YK,YL,EA,EB,EC,ED,EE,EF,EG,EH,EI,EJ,EK,EL,EM,EN,EO,EP,EQ,ER,ES,ET,EU,EV,EW,EX,EY,EZ,Ea,Eb,Ec,UA,UB]
  refine ⟨_, e2, [_, _], ⟨rfl, by simp⟩, ?_⟩
  have h0 := ahead_all e4
  have := q h' N k (by rw [h0]; exact e3)
  rw [h0] at this
  exact this
theorem sc_assign2 {e : Env} {x y : Vr} {a b : E} {ss : Ss} {Q : Fl → Env → MH → Prop} (q : wE C a e h fun va h1 => wE C b e h1 fun vb h2 => ∃ wa wb, (x ≠ y ∧ va = .w wa ∧ vb = .w wb) ∧ wSs C ss (upd (upd e x va) y vb) h2 Q) :
  wSs C (.cons (.assign2 x y a b) ss) e h Q := by dsimp only [UF,UG,YA,YB,YC,YD,YE,YF,YG,YH,YI,YJ,YK,YL]; exact q
theorem sc_unpack {e : Env} {xs : List Vr} {a : E} {ss : Ss} {Q : Fl → Env → MH → Prop} (q : wE C a e h fun v h1 => ∃ ws e', (v = .tup ws ∧ updW e xs ws = some e') ∧ wSs C ss e' h1 Q) : wSs C (.cons (.unpack xs a) ss) e h Q := by dsimp only [UF,UG,YA,YB,YC,YD,YE,YF,YG,YH,YI,YJ,YK,YL]; exact q
theorem q_b1 {e : Env} {op : B1} {a : E} {Q : V → MH → Prop} (q : wE C a e h fun va h1 => b1op op va h1 Q) : wE C (.b1 op a) e h Q := by dsimp only [EA,EB,EC,ED,EE,EF,EG,EH,EI,EJ,EK,EL,EM,EN,EO,EP,EQ,ER,ES,ET,EU,EV,EW,EX,EY,EZ,Ea,Eb,Ec]; exact q
theorem q_bin {e : Env} {op : Bop} {a b : E} {Q : V → MH → Prop} (q : wE C a e h fun va h1 => wE C b e h1 fun vb h2 => binop op va vb h2 Q) : wE C (.bin op a b) e h Q := by dsimp only [EA,EB,EC,ED,EE,EF,EG,EH,EI,EJ,EK,EL,EM,EN,EO,EP,EQ,ER,ES,ET,EU,EV,EW,EX,EY,EZ,Ea,Eb,Ec]; exact q
theorem q_comp {e : Env} {elt : E} {xs : List Vr} {it : It} {c : T} {Q : V → MH → Prop} (q : wIt C it e h fun s h1 => ∃ n,
   wFor (fun _ => e) s xs (fun e' acc h2 K => wT C c e' h2 fun r h3 => if r = true then wE C elt e' h3 fun v h4 => acc.length ≤ room ∧ K (acc ++ [v]) h4 else K acc h3) n 0 [] h1
    fun acc h2 => Q (.loc h2.nxt) (h2.new (.list acc))) : wE C (.comp elt xs it c) e h Q := by dsimp only [EA,EB,EC,ED,EE,EF,EG,EH,EI,EJ,EK,EL,EM,EN,EO,EP,EQ,ER,ES,ET,EU,EV,EW,EX,EY,EZ,Ea,Eb,Ec]; exact q
theorem q_call {e : Env} {f : Fn} {es : Es} {Q : V → MH → Prop} (q : wEs C es e h fun vs h1 => C f vs h1 Q) : wE C (.call f es) e h Q := by dsimp only [EA,EB,EC,ED,EE,EF,EG,EH,EI,EJ,EK,EL,EM,EN,EO,EP,EQ,ER,ES,ET,EU,EV,EW,EX,EY,EZ,Ea,Eb,Ec]; exact q
theorem q_seq {e : Env} {a : E} {Q : Src → MH → Prop} (q : wE C a e h fun v h1 => Q (.seq v) h1) : wIt C (.seq a) e h Q := by dsimp only [UC,UD,UE]; exact q
inductive NulN (ps : List Pr) : Nm → Prop
 | mk {p : Pr} : p ∈ ps → (∀ x ∈ p.2, NulN ps x) → NulN ps p.1
noncomputable def EmpOk (ps : List Pr) (emp : List Nm) : Prop := ∀ x, x ∈ emp ↔ NulN ps x
noncomputable def newN (ps : List Pr) (X : List Nm) : List Nm := (ps.filter fun p => p.2.all fun x => memB X x).map (·.1)
theorem subset_of_len {X Y : List Nm} (hX : X.Nodup) (hs : ∀ x ∈ X, x ∈ Y) (hY : Y.Nodup) (hl : Y.length ≤ X.length) : ∀ y ∈ Y, y ∈ X := fun y hy => Classical.byContradiction fun hn => by
 have h1 : (y :: X).Nodup := List.nodup_cons.mpr ⟨hn, hX⟩
 have h2 := List.Nodup.length_le_of_subset h1 (l₂ := Y) fun z hz => by
  rcases List.mem_cons.mp hz with rfl | hz
  ·exact hy
  ·exact hs z hz
 simp only [List.length_cons] at h2; lia
theorem filter_all (X : List Nm) : ∀ ys : List Nm, (ys.filter fun x => !memB X x) = [] ↔ (ys.all fun x => memB X x) = true := fun ys => by
 rw [List.filter_eq_nil_iff, List.all_eq_true]
 exact ⟨fun h x hx => by simpa using h x hx, fun h x hx => by simpa using h x hx⟩
theorem sp_notin {fl : Nat} {ys X : List Nm} {e : Env} {Q : V → MH → Prop} {xv yv : Vr} {src : E} (hne : xv ≠ yv) (hf : e yv = some (.loc fl)) (hx : h.get fl = some (.list (vStrs X))) (hl : ys.length ≤ 1000)
  (hsrc : ∀ P : V → MH → Prop, (∀ h1 pl, Kp h h1 → h1.get pl = some (.list (vStrs ys)) → P (.loc pl) h1) → wE C src e h P)
  (q : ∀ h', Kp h h' → Q (.loc h'.nxt) (h'.new (.list (vStrs (ys.filter fun x => !memB X x))))) : wE C (.comp (.var xv) [xv] (.seq src) (.cmp .notin (.var xv) (.var yv))) e h Q := by
 dsimp only [EA,EB,EC,ED,EE,EF,EG,EH,EI,EJ,EK,EL,EM,EN,EO,EP,EQ,ER,ES,ET,EU,EV,EW,EX,EY,EZ,Ea,Eb,Ec,UC,UD,UE,JA,JB,JC,JD,JE,JF,JG]
 refine hsrc _ fun h1 pl k1 hp => ?_
 refine for_seq (vs := vStrs ys) (fun j acc h' => h' = h1 ∧ acc = vStrs ((ys.take j).filter fun x => !memB X x)) ?_ ?_ ?_ ⟨rfl, rfl⟩
 ·rintro j acc h' ⟨rfl, _⟩
  simp only [items, hp]
 ·rintro j acc h' v hv ⟨rfl, rfl⟩
  obtain ⟨x, hxj, rfl⟩ : ∃ x, ys[j]? = some x ∧ V.str x = v := map_at hv
  refine ⟨_, rfl, fun K hK => ?_⟩
  have h1 : upd e xv (.str x) xv = some (.str x) := if_pos rfl
  have h2 : upd e xv (.str x) yv = some (.loc fl) := by show (if yv = xv then _ else _) = _; rw [if_neg fun z => hne z.symm]; exact hf
  refine ⟨_, h1, _, h2, _, _, ⟨k1.get hx, vin_strs x X⟩, ?_⟩
  have et : (ys.take (j + 1)).filter (fun x => !memB X x) = (ys.take j).filter (fun x => !memB X x) ++ (if memB X x = true then [] else [x]) := by
   rw [List.take_add_one, hxj, List.filter_append]
   congr 1
   show List.filter _ [x] = _
   cases hb : memB X x <;> simp [hb]
  have hd : decide (x ∈ X) = memB X x := rfl
  cases hm : memB X x with
  | true =>
   rw [hd, hm]
   refine (if_neg (c := (!true) = true) (by simp)).mpr ?_
   refine hK _ _ ⟨rfl, ?_⟩
   rw [et, hm]; simp
  | false =>
   rw [hd, hm]
   refine (if_pos (c := (!false) = true) (by simp)).mpr ?_
   refine ⟨_, h1, ?_, hK _ _ ⟨rfl, ?_⟩⟩
   ·rw [vStrs_length]
    have a1 := List.length_filter_le (fun x => !memB X x) (ys.take j)
    have a2 := List.length_take_le' j ys
    simp only [room]; lia
   ·rw [et, hm]; simp [vStrs]
 ·rintro acc h' ⟨rfl, rfl⟩
  rw [vStrs_length, List.take_length]
  exact q _ k1
end
end Mine
end
section
namespace Mine
section
variable {h : MH} {n : Nat} {C : CS}
theorem newN_snoc (ps : List Pr) (X : List Nm) (j : Nat) (p : Pr) (hp : ps[j]? = some p) : newN (ps.take (j + 1)) X = newN (ps.take j) X ++ (if (p.2.all fun x => memB X x) = true then [p.1] else []) := by
 unfold newN
 rw [List.take_add_one, hp, List.filter_append, List.map_append]
 congr 1
 show (List.filter _ [p]).map _ = _
 cases hb : p.2.all fun x => memB X x <;> simp [hb]
theorem mem_newN {ps : List Pr} {X : List Nm} {x : Nm} : x ∈ newN ps X ↔ ∃ p ∈ ps, (∀ y ∈ p.2, y ∈ X) ∧ p.1 = x := by
 unfold newN
 rw [List.mem_map]
 constructor
 ·rintro ⟨p, hp, rfl⟩
  obtain ⟨h1, h2⟩ := List.mem_filter.mp hp
  exact ⟨p, h1, fun y hy => by simpa [memB] using List.all_eq_true.mp h2 y hy, rfl⟩
 ·rintro ⟨p, hp, h1, rfl⟩
  exact ⟨p, List.mem_filter.mpr ⟨hp, List.all_eq_true.mpr fun y hy => by simpa [memB] using h1 y hy⟩, rfl⟩
theorem newN_length (ps : List Pr) (X : List Nm) : (newN ps X).length ≤ ps.length := by
 unfold newN; rw [List.length_map]; exact List.length_filter_le _ _
theorem sorted_nodup {X : List Nm} (h : X.Pairwise fun a b => a.rank < b.rank) : X.Nodup := h.imp fun h e => by subst e; exact Nat.lt_irrefl _ h
inductive LeW (h : MH) (l : Nat) (ps : List Pr) (m : Nat) (e : Env) (h' : MH) : Prop
 | mk (N : Nat) (X : List Nm) (known : Int) (hk : Kp h h' ∧ h.nxt ≤ N) (e1 : e .pairs = some (.loc l)) (e2 : e .found = some (.loc N)) (e3 : e .known = some (.int known)) (g : h'.get N = some (.list (vStrs X)))
  (hs : X.Pairwise (fun a b : Nm => a.rank < b.rank)) (h12 : X.length ≤ 12) (hn : ∀ x ∈ X, NulN ps x) (hm : m = (13 - (known + 1)).toNat)
  (ho : (known = -1 ∧ X = []) ∨ ∃ prev : List Nm, known = prev.length ∧ prev.Nodup ∧ (∀ x ∈ prev, x ∈ X) ∧ ∀ y, y ∈ newN ps prev → y ∈ X)
theorem sp_law_empty {l : Nat} {ps : List Pr} {ks : List Nat} {Q : V → MH → Prop} (w : Wf h) (P : PAt h l ps ks) (hlen : ps.length ≤ 40) (hpl : ∀ p ∈ ps, p.2.length ≤ 8)
  (q : ∀ h' N emp, Kp h h' → h.nxt ≤ N → h'.get N = some (.list (vStrs emp)) → EmpOk ps emp → emp.length ≤ 12 → Q (.loc N) h') : CL prog (n + 1) .law_empty [.loc l] h Q := by
 refine ⟨_, rfl, ?_⟩
 show wSs (CL prog n) body_law_empty _ h _
 unfold body_law_empty
 refine sc_assign2 ?_
 dsimp only [EA,EB,EC,ED,EE,EF,EG,EH,EI,EJ,EK,EL,EM,EN,EO,EP,EQ,ER,ES,ET,EU,EV,EW,EX,EY,EZ,Ea,Eb,Ec,UA,UB]
 refine ⟨by simp, .loc h.nxt, .int (-1), ⟨by decide, rfl, rfl⟩, ?_⟩
 have k1 : Kp h (h.new (.list [])) := (Ke.refl (W := NoW) w).new (.list [])
 refine sc_while ?_
 refine while_inv (LeW h l ps) ?_
  ⟨h.nxt, [], -1, ⟨k1, Nat.le_refl _⟩, rfl, rfl, rfl, get_new .., List.Pairwise.nil, by simp, fun x hx => by simp at hx, rfl, .inl ⟨rfl, rfl⟩⟩
 rintro m e h' ⟨N, X, known, ⟨k, hN⟩, e1, e2, e3, g1, hs, h12, hnul, rfl, hor⟩ K hK
 dsimp only [JA,JB,JC,JD,JE,JF,JG,EA,EB,EC,ED,EE,EF,EG,EH,EI,EJ,EK,EL,EM,EN,EO,EP,EQ,ER,ES,ET,EU,EV,EW,EX,EY,EZ,Ea,Eb,Ec]
 refine ⟨_, e3, _, e2, r_lenL g1 (by rw [vStrs_length]; simp only [room]; lia) ?_⟩
 rw [vStrs_length]
 have hk1 : -1 ≤ known := by rcases hor with ⟨rfl, _⟩ | ⟨p, rfl, _⟩ <;> lia
 by_cases hlt : known < (X.length : Int)
 ·refine (if_pos (c := decide (known < (X.length : Int)) = true) (by simpa using hlt)).mpr ?_
  refine sc_assign ?_
  dsimp only [EA,EB,EC,ED,EE,EF,EG,EH,EI,EJ,EK,EL,EM,EN,EO,EP,EQ,ER,ES,ET,EU,EV,EW,EX,EY,EZ,Ea,Eb,Ec]
  refine ⟨_, e2, r_lenL g1 (by rw [vStrs_length]; simp only [room]; lia) ?_⟩
  rw [vStrs_length]
  refine sc_assign ?_
  have e1' : upd e .known (.int (X.length : Int)) .pairs = some (.loc l) := e1
  have e2' : upd e .known (.int (X.length : Int)) .found = some (.loc N) := e2
  generalize hee : upd e .known (.int (X.length : Int)) = e4 at e1' e2'
  have hkn : e4 .known = some (.int (X.length : Int)) := by rw [← hee]; rfl
  refine q_b1 ?_
  refine q_bin ?_
  refine r_var e2' ?_
  refine q_comp ?_
  refine q_seq ?_
  refine r_var e1' ?_
  have Pk := P.kp k
  refine for_seq (vs := (ps.zip ks).map fun x => V.tup [.str x.1.1, .loc x.2]) (fun j acc h2 => Kp h' h2 ∧ acc = vStrs (newN (ps.take j) X)) ?_ ?_ ?_ ⟨Ke.refl k.wf, rfl⟩
  ·rintro j acc h2 ⟨k2, _⟩
   simp only [items, (Pk.kp k2).at_]
  ·rintro j acc h2 v hv ⟨k2, rfl⟩
   obtain ⟨p, kk, hp, hkk, rfl, hpart⟩ := (Pk.kp k2).get hv
   refine ⟨_, rfl, fun K' hK' => ?_⟩
   have hpm := List.mem_of_getElem? hp
   refine sp_notin (xv := .part) (yv := .found) (by decide) (fl := N) (X := X) (ys := p.2) e2' (k2.get g1) (by have := hpl p hpm; lia) (fun P0 q0 => ⟨_, rfl, q0 _ _ (Ke.refl k2.wf) hpart⟩) fun h3 k3 => ?_
   have k4 : Kp h2 (h3.new (.list (vStrs (p.2.filter fun x => !memB X x)))) := k3.new _
   have k5 : Kp h2 ((h3.new (.list (vStrs (p.2.filter fun x => !memB X x)))).new (.list [])) := Ke.new k4 _
   dsimp only [EA,EB,EC,ED,EE,EF,EG,EH,EI,EJ,EK,EL,EM,EN,EO,EP,EQ,ER,ES,ET,EU,EV,EW,EX,EY,EZ,Ea,Eb,Ec,UA,UB]
   refine ⟨by simp, vStrs (p.2.filter fun x => !memB X x), ⟨get_new_of k4.wf _ (get_new ..), get_new ..⟩, ?_⟩
   have hdec : decide (vStrs (p.2.filter fun x => !memB X x) = []) = p.2.all fun x => memB X x := by
    have : (vStrs (p.2.filter fun x => !memB X x) = []) ↔ (p.2.all fun x => memB X x) = true := by
     unfold vStrs; rw [List.map_eq_nil_iff]; exact filter_all X p.2
    cases hb : p.2.all fun x => memB X x with
    | true => exact decide_eq_true (this.mpr hb)
    | false => exact decide_eq_false fun z => by rw [this.mp z] at hb; cases hb
   rw [hdec]
   have ht := newN_snoc ps X j p hp
   cases hb : p.2.all fun x => memB X x with
   | false =>
    rw [hb] at ht
    refine (if_neg (c := false = true) (by simp)).mpr ?_
    exact hK' _ _ ⟨k2.trans k5, by rw [ht]; simp⟩
   | true =>
    rw [hb] at ht
    refine (if_pos (c := true = true) rfl).mpr ?_
    refine ⟨_, rfl, ?_, hK' _ _ ⟨k2.trans k5, by rw [ht]; simp [vStrs]⟩⟩
    rw [vStrs_length]
    have a1 := newN_length (ps.take j) X
    have a2 := List.length_take_le' j ps
    simp only [room]; lia
  ·rintro acc h2 ⟨k2, rfl⟩
   rw [PAt.zlen P, List.take_length]
   have a1 := newN_length ps X
   have k3 : Kp h' (h2.new (.list (vStrs (newN ps X)))) := k2.new _
   refine ⟨vStrs X, vStrs (newN ps X), ⟨get_new_of k2.wf _ (k2.get g1), get_new .., by rw [vStrs_length, vStrs_length]; simp only [room]; lia⟩, ?_⟩
   have k4 : Kp h' ((h2.new (.list (vStrs (newN ps X)))).new (.list (vStrs X ++ vStrs (newN ps X)))) := k3.new _
   refine ⟨_, vStrs X ++ vStrs (newN ps X), X ++ newN ps X, ⟨rfl, get_new .., by simp [vStrs], by rw [List.length_append, vStrs_length, vStrs_length]; lia⟩, ?_⟩
   have k5 : Kp h' (((h2.new (.list (vStrs (newN ps X)))).new (.list (vStrs X ++ vStrs (newN ps X)))).new (.list ((sortNm (X ++ newN ps X)).map .str))) := k4.new _
   refine hK ((13 - ((X.length : Int) + 1)).toNat) _ _ (by lia) ⟨_, sortNm (X ++ newN ps X), X.length, ⟨k.trans k5, Nat.le_trans k.le k4.le⟩, e1', rfl, hkn, get_new .., sortNm_sorted _, sortNm_length _, fun x hx => ?_, rfl, .inr ⟨X, rfl, sorted_nodup hs, fun x hx => mem_sortNm.mpr (List.mem_append_left _ hx), fun y hy => mem_sortNm.mpr (List.mem_append_right _ hy)⟩⟩
   rcases List.mem_append.mp (mem_sortNm.mp hx) with hx | hx
   ·exact hnul x hx
   ·obtain ⟨p, hp, h1, rfl⟩ := mem_newN.mp hx
    exact .mk hp fun y hy => hnul y (h1 y hy)
 ·refine (if_neg (c := decide (known < (X.length : Int)) = true) (by simpa using hlt)).mpr ?_
  refine sc_ret ?_
  dsimp only [EA,EB,EC,ED,EE,EF,EG,EH,EI,EJ,EK,EL,EM,EN,EO,EP,EQ,ER,ES,ET,EU,EV,EW,EX,EY,EZ,Ea,Eb,Ec]
  refine ⟨_, e2, q _ _ X k hN g1 (fun x => ⟨hnul x, fun hx => ?_⟩) h12⟩
  rcases hor with ⟨rfl, _⟩ | ⟨prev, rfl, hpn, hps, hpc⟩
  ·exact absurd hlt (by lia)
  ·have hsub := subset_of_len hpn hps (sorted_nodup hs) (by lia)
   induction hx with
   | mk hp _ ih =>
    rename_i p _
    exact hpc _ (mem_newN.mpr ⟨p, hp, fun y hy => hsub y (ih y hy), rfl⟩)
end
end Mine
end
section
namespace Mine
inductive RN (ps : List Pr) (f : Nm → Bool) : Nm → Nm → Prop
 | refl (x : Nm) : RN ps f x x
 | step {p : Pr} {u y : Nm} : p ∈ ps → u ∈ (ahead f p.2).1 → RN ps f u y → RN ps f p.1 y
theorem RN.trans {ps : List Pr} {f : Nm → Bool} {x y z : Nm} (a : RN ps f x y) (b : RN ps f y z) : RN ps f x z := by
 induction a with
 | refl => exact b
 | step h1 h2 _ ih => exact .step h1 h2 (ih b)
noncomputable def BegOk (ps : List Pr) (f : Nm → Bool) (parts res : List Nm) : Prop := ∀ x, x ∈ res ↔ x ∉ ps.map (·.1) ∧ ∃ u ∈ (ahead f parts).1, RN ps f u x
noncomputable def dN (X : List Nm) : Nat := (sortNm X).length
theorem dN_le (X : List Nm) : dN X ≤ 12 := sortNm_length X
theorem dN_lt {X Y : List Nm} (h : ∀ x ∈ X, x ∈ Y) {y : Nm} (hy : y ∈ Y) (hn : y ∉ X) : dN X < dN Y := by
 have h1 : (y :: sortNm X).Nodup := List.nodup_cons.mpr ⟨fun q => hn (mem_sortNm.mp q), sortNm_nodup X⟩
 have := List.Nodup.length_le_of_subset h1 (l₂ := sortNm Y) fun z hz => by
  rcases List.mem_cons.mp hz with rfl | hz
  ·exact mem_sortNm.mpr hy
  ·exact mem_sortNm.mpr (h z (mem_sortNm.mp hz))
 exact this
theorem ahead_length {α : Type} (f : α → Bool) : ∀ xs : List α, (ahead f xs).1.length ≤ xs.length
 | [] => by simp [ahead]
 | x :: xs => by
  unfold ahead
  have := ahead_length f xs
  split <;> simp; lia
section
variable {h : MH} {n : Nat} {C : CS}
noncomputable def lbF (l el lf : Nat) : Env := upd (upd (upd env0 .lefts (.loc lf)) .empty (.loc el)) .pairs (.loc l)
structure LbW (h : MH) (l el lf : Nat) (ps : List Pr) (emp parts : List Nm) (m : Nat) (e : Env) (h' : MH) (N : Nat) (X : List Nm) (at_ : Nat) : Prop where
 a1 : Kp h h'
 a2 : SubE (lbF l el lf) e
 a3 : e .line = some (.loc N)
 a4 : e .at_ = some (.int (at_ : Int))
 a5 : h'.get N = some (.list (vStrs X))
 a6 : h'.get lf = some (.list (vStrs (ps.map (·.1))))
 a7 : ∀ x ∈ X, ∃ u ∈ (ahead (memB emp) parts).1, RN ps (memB emp) u x
 a8 : ∀ u ∈ (ahead (memB emp) parts).1, u ∈ X
 a9 : ∀ (i : Nat) x, i < at_ → X[i]? = some x → ∀ p ∈ ps, p.1 = x → ∀ y ∈ (ahead (memB emp) p.2).1, y ∈ X
 b1 : at_ ≤ X.length
 b2 : X.length + 9 * (12 - dN X) ≤ 200
 b3 : m = (X.length - at_) + 9 * (12 - dN X)
structure LbS (h : MH) (l el lf : Nat) (ps : List Pr) (emp parts X : List Nm) (x0 : Nm) (at_ j : Nat) (e4 : Env) (h4 : MH) (N4 : Nat) (Y : List Nm) : Prop where
 a1 : Kp h h4
 a2 : SubE (lbF l el lf) e4
 a3 : e4 .line = some (.loc N4)
 a4 : e4 .at_ = some (.int (at_ : Int))
 a5 : h4.get N4 = some (.list (vStrs (X ++ Y)))
 a6 : h4.get lf = some (.list (vStrs (ps.map (·.1))))
 a7 : ∀ x ∈ X ++ Y, ∃ u ∈ (ahead (memB emp) parts).1, RN ps (memB emp) u x
 a8 : ∀ p ∈ ps.take j, p.1 = x0 → ∀ y ∈ (ahead (memB emp) p.2).1, y ∈ X ++ Y
 a9 : (X ++ Y).length + 9 * (12 - dN (X ++ Y)) ≤ X.length + 9 * (12 - dN X)
theorem sp_law_begins {l el pl : Nat} {ps : List Pr} {ks : List Nat} {emp parts : List Nm} {Q : V → MH → Prop} (w : Wf h) (P : PAt h l ps ks) (hlen : ps.length ≤ 40) (hpl : ∀ p ∈ ps, p.2.length ≤ 8)
  (he : h.get el = some (.list (vStrs emp))) (hp : h.get pl = some (.list (vStrs parts))) (hparts : parts.length ≤ 8)
  (q : ∀ h' N res, Kp h h' → h'.get N = some (.list (vStrs res)) → BegOk ps (memB emp) parts res → res.length ≤ 12 → Q (.loc N) h') : CL prog (n + 2) .law_begins [.loc l, .loc pl, .loc el] h Q := by
 refine ⟨_, rfl, ?_⟩
 show wSs (CL prog (n + 1)) body_law_begins _ h _
 unfold body_law_begins
 refine sc_assign2 ?_
 dsimp only [EA,EB,EC,ED,EE,EF,EG,EH,EI,EJ,EK,EL,EM,EN,EO,EP,EQ,ER,ES,ET,EU,EV,EW,EX,EY,EZ,Ea,Eb,Ec,UA,UB]
 refine ⟨_, rfl, _, rfl, sp_ahead w hp he (by lia) fun h1 N1 k1 g1 => ?_⟩
 refine r_gett (n := 0) (by lia) rfl ⟨.loc N1, .int 0, ⟨by decide, rfl, rfl⟩, ?_⟩
 refine sc_assign ?_
 refine q_comp ?_
 refine q_seq ?_
 refine r_var rfl ?_
 have P1 := P.kp k1
 refine for_seq (vs := (ps.zip ks).map fun x => V.tup [.str x.1.1, .loc x.2]) (fun j acc h2 => h2 = h1 ∧ acc = vStrs ((ps.take j).map (·.1))) ?_ ?_ ?_ ⟨rfl, rfl⟩
 ·rintro j acc h2 ⟨rfl, _⟩
  simp only [items, P1.at_]
 ·rintro j acc h2 v hv ⟨rfl, rfl⟩
  obtain ⟨p, kk, hpj, hkk, rfl, hpart⟩ := P1.get hv
  refine ⟨_, rfl, fun K' hK' => ?_⟩
  simp only [JA,JB,JC,JD,JE,JF,JG,EA,EB,EC,ED,EE,EF,EG,EH,EI,EJ,EK,EL,EM,EN,EO,EP,EQ,ER,ES,ET,EU,EV,EW,EX,EY,EZ,Ea,Eb,Ec,if_true]
  refine ⟨_, rfl, by rw [vStrs_length, List.length_map]; have := List.length_take_le' j ps; simp only [room]; lia, hK' _ _ ⟨rfl, ?_⟩⟩
  rw [List.take_add_one, hpj]; simp [vStrs]
 ·rintro acc h2 ⟨rfl, rfl⟩
  rw [PAt.zlen P, List.take_length]
  have k2 : Kp h (h2.new (.list (vStrs (ps.map (·.1))))) := k1.new _
  have g2 : (h2.new (.list (vStrs (ps.map (·.1))))).get h2.nxt = some (.list (vStrs (ps.map (·.1)))) := get_new ..
  have g3 := get_new_of k1.wf (.list (vStrs (ps.map (·.1)))) g1
  generalize h2.new (.list (vStrs (ps.map (·.1)))) = h3 at k2 g2 g3
  generalize h2.nxt = lf at g2 ⊢
  clear P1 g1 k1
  have heF : SubE (lbF l el lf) (upd (upd (upd (upd (upd (upd env0 .empty (.loc el)) .parts (.loc pl)) .pairs (.loc l)) .line (.loc N1)) .at_ (.int 0)) .lefts (.loc lf)) := .cons (.cons (.cons .nil rfl) rfl) rfl
  refine sc_while ?_
  have hA := ahead_length (memB emp) parts
  refine while_inv (fun m e h' => ∃ N X, ∃ at_ : Nat, LbW h l el lf ps emp parts m e h' N X at_) ?_
   ⟨N1, _, 0, k2, heF, rfl, rfl, g3, g2, fun x hx => ⟨x, hx, .refl x⟩, fun u hu => hu, fun i x hi => absurd hi (Nat.not_lt_zero _), Nat.zero_le _, by lia, rfl⟩
  rintro m e h' ⟨N, X, at_, k, heF', e1, e2, gX, gl, hs, hb, hc, hle, hbd, rfl⟩ K hK
  dsimp only [JA,JB,JC,JD,JE,JF,JG,EA,EB,EC,ED,EE,EF,EG,EH,EI,EJ,EK,EL,EM,EN,EO,EP,EQ,ER,ES,ET,EU,EV,EW,EX,EY,EZ,Ea,Eb,Ec]
  refine ⟨_, e2, _, e1, r_lenL gX (by rw [vStrs_length]; simp only [room]; lia) ?_⟩
  rw [vStrs_length]
  by_cases hlt : at_ < X.length
  ·refine (if_pos (c := decide ((at_ : Int) < (X.length : Int)) = true) (by simpa using hlt)).mpr ?_
   obtain ⟨x0, hx0⟩ : ∃ x0, X[at_]? = some x0 := ⟨_, List.getElem?_eq_getElem hlt⟩
   refine sc_for ?_
   dsimp only [UC,UD,UE,EA,EB,EC,ED,EE,EF,EG,EH,EI,EJ,EK,EL,EM,EN,EO,EP,EQ,ER,ES,ET,EU,EV,EW,EX,EY,EZ,Ea,Eb,Ec]
   refine ⟨_, heF' .pairs _ rfl, ?_⟩
   refine for_seq (vs := (ps.zip ks).map fun x => V.tup [.str x.1.1, .loc x.2]) (fun j e4 h4 => ∃ N4 Y, LbS h l el lf ps emp parts X x0 at_ j e4 h4 N4 Y) ?_ ?_ ?_
    ⟨N, [], k, heF', e1, e2, by rw [List.append_nil]; exact gX, gl, by rw [List.append_nil]; exact hs, by simp, by rw [List.append_nil]; exact Nat.le_refl _⟩
   ·rintro j e4 h4 ⟨N4, Y, k4, _⟩
    simp only [items, (P.kp k4).at_]
   ·rintro j e4 h4 v hv ⟨N4, Y, k4, he4, f1, f2, gY, gl4, hs4, hc4, hbd4⟩
    obtain ⟨p, kk, hpj, hkk, rfl, hpart⟩ := (P.kp k4).get hv
    have hpm := List.mem_of_getElem? hpj
    refine ⟨_, rfl, fun K' hK' => ?_⟩
    have he5 := (he4.upd (y := .name) (w := .str p.1) rfl).upd (y := .body) (w := .loc kk) rfl
    refine sc_if (decide (p.1 = x0)) (fun P0 q0 => ?_) ?_
    ·dsimp only [JA,JB,JC,JD,JE,JF,JG,EA,EB,EC,ED,EE,EF,EG,EH,EI,EJ,EK,EL,EM,EN,EO,EP,EQ,ER,ES,ET,EU,EV,EW,EX,EY,EZ,Ea,Eb,Ec]
     refine ⟨_, rfl, _, f1, _, f2, r_get (v := .str x0) gY (by lia) (vStrs_at (by rw [List.getElem?_append_left hlt]; exact hx0)) ⟨_, rfl, q0⟩⟩
    ·by_cases hpx : p.1 = x0
     ·rw [if_pos (by simpa using hpx)]
      refine sc_assign ?_
      refine q_bin ?_
      refine r_var (v := .loc N4) f1 ?_
      refine sp_notin (xv := .one) (yv := .line) (fl := N4) (X := X ++ Y) (ys := (ahead (memB emp) p.2).1) (by decide) f1 gY (by have := ahead_length (memB emp) p.2; have := hpl p hpm; lia) (fun P0 q0 => ?_) fun h5 k5 => ?_
      ·dsimp only [EA,EB,EC,ED,EE,EF,EG,EH,EI,EJ,EK,EL,EM,EN,EO,EP,EQ,ER,ES,ET,EU,EV,EW,EX,EY,EZ,Ea,Eb,Ec,UA,UB]
       refine ⟨_, rfl, _, he5 .empty _ rfl, sp_ahead k4.wf hpart (k4.get he) (by have := hpl p hpm; lia) fun h6 N6 k6 g6 => ?_⟩
       exact r_gett (n := 0) (by lia) rfl (q0 _ _ k6 g6)
      ·have hal := ahead_length (memB emp) p.2
       have hp8 := hpl p hpm
       have hfl := List.length_filter_le (fun x => !memB (X ++ Y) x) (ahead (memB emp) p.2).1
       generalize hZ : ((ahead (memB emp) p.2).1.filter fun x => !memB (X ++ Y) x) = Z at hfl
       have hZm : ∀ z, z ∈ Z ↔ z ∈ (ahead (memB emp) p.2).1 ∧ z ∉ X ++ Y := fun z => by rw [← hZ, List.mem_filter]; simp [memB]
       have k6 : Kp h (h5.new (.list (vStrs Z))) := (k4.trans k5).new _
       refine ⟨vStrs (X ++ Y), vStrs Z, ⟨get_new_of k5.wf _ (k5.get gY), get_new .., by rw [vStrs_length, vStrs_length]; simp only [room]; lia⟩, ?_⟩
       have k7 : Kp h ((h5.new (.list (vStrs Z))).new (.list (vStrs (X ++ Y) ++ vStrs Z))) := k6.new _
       dsimp only [UF,UG]
       have ez : vStrs (X ++ Y) ++ vStrs Z = vStrs (X ++ (Y ++ Z)) := by simp [vStrs]
       refine hK' _ _ ⟨_, Y ++ Z, k7, he5.upd rfl, rfl, f2, by rw [← ez]; exact get_new .., get_new_of k6.wf _ (get_new_of k5.wf _ (k5.get gl4)), fun z hz => ?_, fun p' hp' hpe y hy => ?_, ?_⟩
       ·rw [← List.append_assoc] at hz
        rcases List.mem_append.mp hz with hz | hz
        ·exact hs4 z hz
        ·obtain ⟨u, hu, hr⟩ := hs4 x0 (List.mem_append_left _ (List.mem_of_getElem? hx0))
         refine ⟨u, hu, hr.trans ?_⟩
         rw [← hpx]
         exact .step hpm ((hZm z).mp hz).1 (.refl z)
       ·rw [← List.append_assoc]
        rw [List.take_add_one, hpj] at hp'
        rcases List.mem_append.mp hp' with hp' | hp'
        ·exact List.mem_append_left _ (hc4 p' hp' hpe y hy)
        ·simp at hp'; subst hp'
         by_cases hyX : y ∈ X ++ Y
         ·exact List.mem_append_left _ hyX
         ·exact List.mem_append_right _ ((hZm y).mpr ⟨hy, hyX⟩)
       ·rw [← List.append_assoc]
        cases hZc : Z with
        | nil => rw [List.append_nil]; exact hbd4
        | cons z Z' =>
         have hzm : z ∈ Z := by rw [hZc]; exact .head _
         have hd := dN_lt (X := X ++ Y) (Y := X ++ Y ++ Z) (fun x hx => List.mem_append_left _ hx) (List.mem_append_right _ hzm) ((hZm z).mp hzm).2
         have hd12 := dN_le (X ++ Y ++ Z)
         rw [← hZc]
         rw [List.length_append (bs := Z)]
         lia
     ·rw [if_neg (by simpa using hpx)]
      dsimp only [UF,UG]
      refine hK' _ _ ⟨N4, Y, k4, he5, f1, f2, gY, gl4, hs4, fun p' hp' hpe y hy => ?_, hbd4⟩
      rw [List.take_add_one, hpj] at hp'
      rcases List.mem_append.mp hp' with hp' | hp'
      ·exact hc4 p' hp' hpe y hy
      ·simp at hp'; subst hp'; exact absurd hpe hpx
   ·rintro e4 h4 ⟨N4, Y, k4, he4, f1, f2, gY, gl4, hs4, hc4, hbd4⟩
    rw [PAt.zlen P, List.take_length] at hc4
    refine sc_assign ?_
    dsimp only [EA,EB,EC,ED,EE,EF,EG,EH,EI,EJ,EK,EL,EM,EN,EO,EP,EQ,ER,ES,ET,EU,EV,EW,EX,EY,EZ,Ea,Eb,Ec,UF,UG]
    refine ⟨_, f2, ?_⟩
    dsimp only [binop, onI, onW, addW, mulW]
    have hbd5 : X.length + Y.length + 9 * (12 - dN (X ++ Y)) ≤ X.length + 9 * (12 - dN X) := by rw [← List.length_append]; exact hbd4
    refine hK (((X ++ Y).length - (at_ + 1)) + 9 * (12 - dN (X ++ Y))) _ _ (by rw [List.length_append]; lia) ⟨N4, X ++ Y, at_ + 1, k4, he4.upd rfl, f1, ?_, gY, gl4, hs4, fun u hu => List.mem_append_left _ (hb u hu), fun i x hi hx p hpm hpe y hy => ?_, by rw [List.length_append]; lia, by lia, rfl⟩
    ·show some (V.int ((at_ : Int) + 1)) = _; congr 2
    ·by_cases hia : i < at_
     ·rw [List.getElem?_append_left (by lia)] at hx
      exact List.mem_append_left _ (hc i x hia hx p hpm hpe y hy)
     ·have : i = at_ := by lia
      subst this
      rw [List.getElem?_append_left hlt, hx0] at hx
      cases hx
      exact hc4 p hpm hpe y hy
  ·refine (if_neg (c := decide ((at_ : Int) < (X.length : Int)) = true) (by simpa using hlt)).mpr ?_
   refine sc_ret ?_
   refine q_b1 ?_
   refine sp_notin (xv := .part) (yv := .lefts) (fl := lf) (X := ps.map (·.1)) (ys := X) (by decide) (heF' .lefts _ rfl) gl (by lia) (fun P0 q0 => r_var e1 (q0 _ _ (Ke.refl k.wf) gX)) fun h5 k5 => ?_
   have hfl := List.length_filter_le (fun x => !memB (ps.map (·.1)) x) X
   refine ⟨_, _, X.filter fun x => !memB (ps.map (·.1)) x, ⟨rfl, get_new .., rfl, by rw [vStrs_length]; lia⟩, ?_⟩
   have k6 : Kp h (h5.new (.list (vStrs (X.filter fun x => !memB (ps.map (·.1)) x)))) := (k.trans k5).new _
   refine q _ _ (sortNm (X.filter fun x => !memB (ps.map (·.1)) x)) (k6.new _) (get_new ..) (fun x => ?_) (sortNm_length _)
   rw [mem_sortNm, List.mem_filter]
   have hall : ∀ x, x ∈ X ↔ ∃ u ∈ (ahead (memB emp) parts).1, RN ps (memB emp) u x := fun x => ⟨hs x, fun hex => by
    obtain ⟨u, hu, hr⟩ := hex
    have hu' := hb u hu
    clear hu
    induction hr with
    | refl => exact hu'
    | step hpm huy _ ih =>
     obtain ⟨i, hi, hxi⟩ := List.getElem_of_mem hu'
     exact ih (hc i _ (by lia) (by rw [List.getElem?_eq_getElem hi, hxi]) _ hpm rfl _ huy)⟩
   rw [hall x]
   simp only [memB, Bool.not_eq_true', decide_eq_false_iff_not]
   exact and_comm
end
end Mine
end
section
namespace Mine
abbrev Tr := Nat × Nat × Nm
noncomputable def vTr (t : Tr) : V := .tup [.int (t.1 : Int), .int (t.2.1 : Int), .str t.2.2]
theorem vin_trs (t : Tr) (ts : List Tr) : vin (vTr t) (ts.map vTr) = some (decide (t ∈ ts)) := by
 induction ts with
 | nil => rfl
 | cons u ts ih =>
  show (veq (vTr u) (vTr t)).bind _ = _
  rw [ih]
  have : veq (vTr u) (vTr t) = some (decide (u = t)) := by
   show (if 3 = 3 then weqs _ _ else none) = _
   rw [if_pos rfl]
   obtain ⟨a, b, c⟩ := u
   obtain ⟨a', b', c'⟩ := t
   show some (decide ((a : Int) = (a' : Int)) && (decide ((b : Int) = (b' : Int)) && (decide (c = c') && true))) = _
   congr 1
   rw [Bool.and_true, ← Bool.decide_and, ← Bool.decide_and]
   exact decide_eq_decide.mpr (by rw [Prod.mk.injEq, Prod.mk.injEq, Int.ofNat_inj, Int.ofNat_inj])
  rw [this]
  show some (decide (u = t) || decide (t ∈ ts)) = _
  rw [← Bool.decide_or]
  exact congrArg some (decide_eq_decide.mpr ((or_congr_left eq_comm).trans List.mem_cons.symm))
noncomputable def SigOk (ps : List Pr) (f : Nm → Bool) (rest : List Nm) (s one : Nm) : Prop := one = .nil ∨ (one = s ∧ (ahead f rest).2 = true) ∨ (one ∉ ps.map (·.1) ∧ ∃ u ∈ (ahead f rest).1, RN ps f u one)
inductive R3 (ps : List Pr) (f : Nm → Bool) (B : List Tr) : Nat → Nat → Nm → Prop
 | base {r d s} : (r, d, s) ∈ B → R3 ps f B r d s
 | step {r d s p x r' p' one} : R3 ps f B r d s → ps[r]? = some p → p.2[d]? = some x → ps[r']? = some p' → p'.1 = x → SigOk ps f (p.2.drop (d + 1)) s one → R3 ps f B r' 0 one
noncomputable def slackT (np : Nat) (X : List Tr) : Nat := ((List.range np).map fun r => (allNm.filter fun s => decide ((r, 0, s) ∉ X)).length).sum
theorem slackT_lt {np : Nat} {X Y : List Tr} (hs : ∀ t ∈ X, t ∈ Y) {r : Nat} {s : Nm} (hr : r < np) (hY : (r, 0, s) ∈ Y) (hX : (r, 0, s) ∉ X) : slackT np Y < slackT np X := by
 unfold slackT
 refine sum_lt (fun r' _ => filter_le fun s' _ h => ?_) (List.mem_range.mpr hr) (filter_lt (fun s' _ h => ?_) (mem_allNm s) (by simpa using hY) (by simpa using hX))
 ·simp only [decide_eq_true_eq] at h ⊢; exact fun q => h (hs _ q)
 ·simp only [decide_eq_true_eq] at h ⊢; exact fun q => h (hs _ q)
theorem slackT_le (np : Nat) (X : List Tr) : slackT np X ≤ 12 * np := by
 unfold slackT
 have : ∀ l : List Nat, (l.map fun r => (allNm.filter fun s => decide ((r, 0, s) ∉ X)).length).sum ≤ 12 * l.length := by
  intro l
  induction l with
  | nil => simp
  | cons x l ih =>
   have := List.length_filter_le (fun s => decide ((x, 0, s) ∉ X)) allNm
   have h12 : allNm.length = 12 := rfl
   simp only [List.map_cons, List.sum_cons, List.length_cons]
   lia
 have := this (List.range np)
 rwa [List.length_range] at this
section
variable {h : MH} {n : Nat} {C : CS}
noncomputable def poF (l el : Nat) : Env := upd (upd env0 .empty (.loc el)) .pairs (.loc l)
theorem q_tup3 {e : Env} {a b c : E} {wa wb wc : W} {Q : V → MH → Prop} (ha : ∀ P : V → MH → Prop, P (.w wa) h → wE C a e h P) (hb : ∀ P : V → MH → Prop, P (.w wb) h → wE C b e h P) (hc : ∀ P : V → MH → Prop, P (.w wc) h → wE C c e h P)
  (q : Q (.tup [wa, wb, wc]) h) : wE C (.tup (.cons a (.cons b (.cons c .nil)))) e h Q := by
 dsimp only [EA,EB,EC,ED,EE,EF,EG,EH,EI,EJ,EK,EL,EM,EN,EO,EP,EQ,ER,ES,ET,EU,EV,EW,EX,EY,EZ,Ea,Eb,Ec,UA,UB]
 exact ha _ (hb _ (hc _ ⟨[wa, wb, wc], ⟨rfl, by simp⟩, q⟩))
structure PoW (h : MH) (l el : Nat) (ps : List Pr) (emp : List Nm) (B : List Tr) (m : Nat) (e : Env) (h' : MH) (N : Nat) (X : List Tr) (at_ : Nat) : Prop where
 a1 : Kp h h'
 a2 : SubE (poF l el) e
 a3 : e .line = some (.loc N)
 a4 : e .at_ = some (.int (at_ : Int))
 a5 : h'.get N = some (.list (X.map vTr))
 a6 : ∀ t ∈ X, R3 ps (memB emp) B t.1 t.2.1 t.2.2
 a7 : ∀ t ∈ B, t ∈ X
 a8 : ∀ t ∈ X, ∃ p, ps[t.1]? = some p ∧ t.2.1 ≤ p.2.length
 a9 : ∀ (i : Nat) t, i < at_ → X[i]? = some t → ∀ p x, ps[t.1]? = some p → p.2[t.2.1]? = some x → ∀ (r' : Nat) p', ps[r']? = some p' → p'.1 = x → ∀ one, SigOk ps (memB emp) (p.2.drop (t.2.1 + 1)) t.2.2 one → (r', 0, one) ∈ X
 b1 : at_ ≤ X.length
 b2 : X.length + 13 * slackT ps.length X ≤ 8000
 b3 : m = (X.length - at_) + 13 * slackT ps.length X
structure PoE (h h6 : MH) (l el kk d N6 : Nat) (ps : List Pr) (emp : List Nm) (B X : List Tr) (S : List Nm) (x : Nm) (at_ j : Nat) (e9 : Env) (h9 : MH) (N9 : Nat) (Y : List Tr) : Prop where
 a1 : Kp h h9
 a2 : Kp h6 h9
 a3 : SubE (poF l el) e9
 a4 : e9 .line = some (.loc N9)
 a5 : e9 .at_ = some (.int (at_ : Int))
 a6 : e9 .parts = some (.loc kk)
 a7 : e9 .dot = some (.int (d : Int))
 a8 : e9 .signs = some (.loc N6)
 a9 : h9.get N9 = some (.list ((X ++ Y).map vTr))
 b1 : ∀ t ∈ X ++ Y, R3 ps (memB emp) B t.1 t.2.1 t.2.2
 b2 : ∀ t ∈ X ++ Y, ∃ p, ps[t.1]? = some p ∧ t.2.1 ≤ p.2.length
 b3 : ∀ (r' : Nat) p', r' < j → ps[r']? = some p' → p'.1 = x → ∀ one, one ∈ S → (r', 0, one) ∈ X ++ Y
 b4 : (X ++ Y).length + 13 * slackT ps.length (X ++ Y) ≤ X.length + 13 * slackT ps.length X
theorem po_news {e9 : Env} {h9 : MH} {T : List Tr} {S : List Nm} {j N9 N6 : Nat} {Q : V → MH → Prop} {n : Nat} (w : Wf h9) (a1 : e9 .line = some (.loc N9)) (a5 : e9 .signs = some (.loc N6)) (ao : e9 .other = some (.int (j : Int)))
  (a6 : h9.get N9 = some (.list (T.map vTr))) (g6 : h9.get N6 = some (.list (vStrs S))) (hS : S.length ≤ 14)
  (q : ∀ (h11 : MH) (Z : List Nm), Kp h9 h11 → (∀ one, one ∈ Z ↔ one ∈ S ∧ (j, 0, one) ∉ T) → Z.length ≤ 12 → Q (.loc h11.nxt) (h11.new (.list (Z.map fun one => vTr (j, 0, one))))) :
  wE (CL prog (n + 2)) (.comp (.tup (.cons (.var .other) (.cons (.int 0) (.cons (.var .one) .nil)))) [.one] (.seq (.b1 .sortedSet (.var .signs))) (.cmp .notin (.tup (.cons (.var .other) (.cons (.int 0) (.cons (.var .one) .nil)))) (.var .line))) e9 h9 Q := by
 refine q_comp ?_
 refine q_seq ?_
 refine q_b1 ?_
 refine r_var (v := .loc N6) a5 ?_
 refine ⟨N6, vStrs S, S, ⟨rfl, g6, rfl, by rw [vStrs_length]; lia⟩, ?_⟩
 have hS12 := sortNm_length S
 have k10 : Kp h9 (h9.new (.list ((sortNm S).map .str))) := (Ke.refl w).new _
 have g10 : (h9.new (.list ((sortNm S).map .str))).get h9.nxt = some (.list ((sortNm S).map .str)) := get_new ..
 have gL := k10.get a6
 have fl1 := fun j' : Nat => List.length_filter_le (fun one => decide ((j, 0, one) ∉ T)) ((sortNm S).take j')
 generalize h9.new (.list ((sortNm S).map .str)) = h10 at k10 g10 gL
 have tup : ∀ (e11 : Env) (h11 : MH) (one : Nm) (P1 : V → MH → Prop), e11 .other = some (.int (j : Int)) → e11 .one = some (.str one) → P1 (vTr (j, 0, one)) h11 → wE (CL prog (n + 2)) (.tup (.cons (.var .other) (.cons (.int 0) (.cons (.var .one) .nil)))) e11 h11 P1 := fun e11 h11 one P1 b1 b2 b3 =>
  q_tup3 (fun _ z => r_var b1 z) (fun _ z => by dsimp only [EA,EB,EC,ED,EE,EF,EG,EH,EI,EJ,EK,EL,EM,EN,EO,EP,EQ,ER,ES,ET,EU,EV,EW,EX,EY,EZ,Ea,Eb,Ec]; exact z) (fun _ z => r_var b2 z) b3
 refine for_seq (vs := (sortNm S).map .str) (fun i acc h11 => h11 = h10 ∧ acc = (((sortNm S).take i).filter fun one => decide ((j, 0, one) ∉ T)).map fun one => vTr (j, 0, one)) ?_ ?_ ?_ ⟨rfl, rfl⟩
 ·rintro i acc h11 ⟨rfl, _⟩
  simp only [items, g10]
 ·rintro i acc h11 v hv1 ⟨rfl, rfl⟩
  obtain ⟨one, ho, rfl⟩ : ∃ one, (sortNm S)[i]? = some one ∧ V.str one = v := map_at hv1
  refine ⟨_, rfl, fun K2 hK2 => ?_⟩
  have et : ((sortNm S).take (i + 1)).filter (fun one => decide ((j, 0, one) ∉ T)) = ((sortNm S).take i).filter (fun one => decide ((j, 0, one) ∉ T)) ++ (if (j, 0, one) ∉ T then [one] else []) := by
   rw [List.take_add_one, ho, List.filter_append]
   congr 1
   show List.filter _ [one] = _
   rw [List.filter_cons]
   by_cases hb : (j, 0, one) ∉ T
   ·rw [if_pos (decide_eq_true hb), if_pos hb]; rfl
   ·rw [if_neg (by rw [decide_eq_false hb]; exact Bool.false_ne_true), if_neg hb]; rfl
  dsimp only [JA,JB,JC,JD,JE,JF,JG]
  refine tup _ _ one _ ao rfl ?_
  refine r_var (v := .loc N9) a1 ?_
  refine ⟨_, _, ⟨gL, vin_trs (j, 0, one) T⟩, ?_⟩
  by_cases hin : (j, 0, one) ∈ T
  ·refine (if_neg (c := (!decide ((j, 0, one) ∈ T)) = true) (by rw [decide_eq_true hin]; exact Bool.false_ne_true)).mpr ?_
   exact hK2 _ _ ⟨rfl, by rw [et, if_neg fun z => z hin, List.append_nil]⟩
  ·refine (if_pos (c := (!decide ((j, 0, one) ∈ T)) = true) (by rw [decide_eq_false hin]; rfl)).mpr ?_
   refine tup _ _ one _ ao rfl ⟨?_, hK2 _ _ ⟨rfl, by rw [et, if_pos hin, List.map_append]; rfl⟩⟩
   have := fl1 i
   have := List.length_take_le' i (sortNm S)
   rw [List.length_map]; simp only [room]; lia
 ·rintro acc h11 ⟨rfl, rfl⟩
  rw [List.length_map, List.take_length]
  have fl2 := fl1 (sortNm S).length
  rw [List.take_length] at fl2
  exact q _ _ k10 (fun one => by rw [List.mem_filter, mem_sortNm, decide_eq_true_eq]) (Nat.le_trans fl2 hS12)
theorem add_strs {h5 : MH} {N3 N5 : Nat} {A Z : List Nm} {R : V → MH → Prop} (w : Wf h5) (g3 : h5.get N3 = some (.list (vStrs A))) (g5 : h5.get N5 = some (.list (vStrs Z))) (hl : A.length + Z.length ≤ 100)
  (q : ∀ h6, Kp h5 h6 → h6.get h5.nxt = some (.list (vStrs (A ++ Z))) → R (.loc h5.nxt) h6) : binop .add (.loc N3) (.loc N5) h5 R := by
 refine ⟨vStrs A, vStrs Z, ⟨g3, g5, by rw [vStrs_length, vStrs_length]; exact Nat.le_trans hl (by decide)⟩, ?_⟩
 rw [show vStrs A ++ vStrs Z = vStrs (A ++ Z) from (List.map_append ..).symm]
 exact q _ ((Ke.refl w).new _) (get_new ..)
theorem sig_iff {ps : List Pr} {emp rest res : List Nm} {s : Nm} (hres : BegOk ps (memB emp) rest res) (one : Nm) : one ∈ (res ++ (if (ahead (memB emp) rest).2 = true then [s] else [])) ++ [Nm.nil] ↔ SigOk ps (memB emp) rest s one := by
 rw [List.mem_append, List.mem_append, hres one, List.mem_singleton]
 unfold SigOk
 cases hO : (ahead (memB emp) rest).2 with
 | true =>
  rw [if_pos rfl, List.mem_singleton]
  exact ⟨fun z => z.elim (fun z => z.elim (fun z => .inr (.inr z)) fun z => .inr (.inl ⟨z, rfl⟩)) .inl, fun z => z.elim .inr fun z => .inl (z.elim (fun z => .inr z.1) .inl)⟩
 | false =>
  rw [if_neg Bool.false_ne_true]
  exact ⟨fun z => z.elim (fun z => z.elim (fun z => .inr (.inr z)) fun z => nomatch z) .inl, fun z => z.elim .inr fun z => .inl (z.elim (fun z => absurd z.2 Bool.false_ne_true) .inl)⟩
theorem sp_pairs_of {l el bl : Nat} {ps : List Pr} {ks : List Nat} {emp : List Nm} {B : List Tr} {Q : V → MH → Prop} (w : Wf h) (P : PAt h l ps ks) (hlen : ps.length ≤ 40) (hpl : ∀ p ∈ ps, p.2.length ≤ 8)
  (he : h.get el = some (.list (vStrs emp))) (hB : h.get bl = some (.list (B.map vTr))) (hBl : B.length ≤ 200) (hBv : ∀ t ∈ B, ∃ p, ps[t.1]? = some p ∧ t.2.1 ≤ p.2.length)
  (q : ∀ h' N (X : List Tr), Kp h h' → h'.get N = some (.list (X.map vTr)) → X.length ≤ 9000 → (∀ t ∈ X, ∃ p, ps[t.1]? = some p ∧ t.2.1 ≤ p.2.length) → (∀ r d s, (r, d, s) ∈ X ↔ R3 ps (memB emp) B r d s) → Q (.loc N) h') :
  CL prog (n + 3) .law_pairs_of [.loc l, .loc bl, .loc el] h Q := by
 refine ⟨_, rfl, ?_⟩
 show wSs (CL prog (n + 2)) body_law_pairs_of _ h _
 unfold body_law_pairs_of
 refine sc_assign2 ?_
 dsimp only [EA,EB,EC,ED,EE,EF,EG,EH,EI,EJ,EK,EL,EM,EN,EO,EP,EQ,ER,ES,ET,EU,EV,EW,EX,EY,EZ,Ea,Eb,Ec]
 refine ⟨_, rfl, B.map vTr, ⟨by simp only [items, hB], by rw [List.length_map]; simp only [room]; lia⟩, .loc h.nxt, .int 0, ⟨by decide, rfl, rfl⟩, ?_⟩
 have k1 : Kp h (h.new (.list (B.map vTr))) := (Ke.refl (W := NoW) w).new _
 have heF : SubE (poF l el) (upd (upd (upd (upd (upd env0 .empty (.loc el)) .begun (.loc bl)) .pairs (.loc l)) .line (.loc h.nxt)) .at_ (.int 0)) := .cons (.cons .nil rfl) rfl
 refine sc_while ?_
 have hsl := slackT_le ps.length B
 refine while_inv (fun m e h' => ∃ N X, ∃ at_ : Nat, PoW h l el ps emp B m e h' N X at_) ?_
  ⟨h.nxt, B, 0, k1, heF, rfl, rfl, get_new .., fun t ht => .base ht, fun t ht => ht, hBv, fun i t hi => absurd hi (Nat.not_lt_zero _), Nat.zero_le _, by lia, rfl⟩
 rintro m e h' ⟨N, X, at_, k, heF', e1, e2, gX, hs, hb, hv, hc, hle, hbd, rfl⟩ K hK
 dsimp only [JA,JB,JC,JD,JE,JF,JG,EA,EB,EC,ED,EE,EF,EG,EH,EI,EJ,EK,EL,EM,EN,EO,EP,EQ,ER,ES,ET,EU,EV,EW,EX,EY,EZ,Ea,Eb,Ec]
 refine ⟨_, e2, _, e1, r_lenL gX (by rw [List.length_map]; simp only [room]; lia) ?_⟩
 rw [List.length_map]
 by_cases hlt : at_ < X.length
 ·refine (if_pos (c := decide ((at_ : Int) < (X.length : Int)) = true) (by simpa using hlt)).mpr ?_
  obtain ⟨t0, ht0⟩ : ∃ t0, X[at_]? = some t0 := ⟨_, List.getElem?_eq_getElem hlt⟩
  obtain ⟨r, d, s⟩ := t0
  have ht0m := List.mem_of_getElem? ht0
  obtain ⟨p, hp, hd⟩ := hv _ ht0m
  have hR := hs _ ht0m
  have hpm := List.mem_of_getElem? hp
  have hp8 := hpl p hpm
  have hrl := lt_of_get hp
  refine (show wSs _ (.cons (.unpack [.number, .dot, .sign] (.sub (.var .line) (.var .at_))) _) e h' _ from ?_)
  refine sc_unpack ?_
  dsimp only [EA,EB,EC,ED,EE,EF,EG,EH,EI,EJ,EK,EL,EM,EN,EO,EP,EQ,ER,ES,ET,EU,EV,EW,EX,EY,EZ,Ea,Eb,Ec]
  refine ⟨_, e1, _, e2, r_get (v := vTr (r, d, s)) gX (by lia) (vals_at ht0) ⟨_, _, ⟨rfl, rfl⟩, ?_⟩⟩
  have he3 := ((heF'.upd (y := .number) (w := .int (r : Int)) rfl).upd (y := .dot) (w := .int (d : Int)) rfl).upd (y := .sign) (w := .str s) rfl
  have e13 : upd (upd (upd e .number (.int (r : Int))) .dot (.int (d : Int))) .sign (.str s) .line = some (.loc N) := e1
  have e23 : upd (upd (upd e .number (.int (r : Int))) .dot (.int (d : Int))) .sign (.str s) .at_ = some (.int (at_ : Int)) := e2
  have en3 : upd (upd (upd e .number (.int (r : Int))) .dot (.int (d : Int))) .sign (.str s) .number = some (.int (r : Int)) := rfl
  have ed3 : upd (upd (upd e .number (.int (r : Int))) .dot (.int (d : Int))) .sign (.str s) .dot = some (.int (d : Int)) := rfl
  have es3 : upd (upd (upd e .number (.int (r : Int))) .dot (.int (d : Int))) .sign (.str s) .sign = some (.str s) := rfl
  show wSs _ _ (upd (upd (upd e .number (.int (r : Int))) .dot (.int (d : Int))) .sign (.str s)) h' _
  generalize upd (upd (upd e .number (.int (r : Int))) .dot (.int (d : Int))) .sign (.str s) = e3 at he3 e13 e23 en3 ed3 es3
  have Pk := P.kp k
  obtain ⟨kk, hkk, hat, hpart⟩ := Pk.put hp
  refine sc_assign ?_
  dsimp only [EA,EB,EC,ED,EE,EF,EG,EH,EI,EJ,EK,EL,EM,EN,EO,EP,EQ,ER,ES,ET,EU,EV,EW,EX,EY,EZ,Ea,Eb,Ec]
  refine ⟨_, he3 .pairs _ rfl, _, en3, r_get Pk.at_ (by lia) hat (r_gett (n := 1) (by lia) rfl ?_)⟩
  have he4 := he3.upd (y := .parts) (w := .loc kk) rfl
  have fin : ∀ e9 h9 N9 Y, Kp h h9 → SubE (poF l el) e9 → e9 .line = some (.loc N9) → e9 .at_ = some (.int (at_ : Int)) → h9.get N9 = some (.list ((X ++ Y).map vTr)) → (∀ t ∈ X ++ Y, R3 ps (memB emp) B t.1 t.2.1 t.2.2) →
    (∀ t ∈ X ++ Y, ∃ p, ps[t.1]? = some p ∧ t.2.1 ≤ p.2.length) → (∀ x, p.2[d]? = some x → ∀ (r' : Nat) p', ps[r']? = some p' → p'.1 = x → ∀ one, SigOk ps (memB emp) (p.2.drop (d + 1)) s one → (r', 0, one) ∈ X ++ Y) →
    (X ++ Y).length + 13 * slackT ps.length (X ++ Y) ≤ X.length + 13 * slackT ps.length X →
    K (upd e9 .at_ (.int ((at_ : Int) + 1))) h9 := fun e9 h9 N9 Y k9 he9 a1 a2 a3 a4 a5 a6 a7 => by
   have a8 := a7
   rw [List.length_append] at a8
   refine hK (((X ++ Y).length - (at_ + 1)) + 13 * slackT ps.length (X ++ Y)) _ _ (by rw [List.length_append]; lia) ⟨N9, X ++ Y, at_ + 1, k9, he9.upd rfl, a1, by show some (V.int ((at_ : Int) + 1)) = _; congr 2, a3, a4, fun t ht => List.mem_append_left _ (hb t ht), a5, fun i t hi hx p1 x1 hp1 hx1 r' p' hr' hpe one ho => ?_, by rw [List.length_append]; lia, by lia, rfl⟩
   by_cases hia : i < at_
   ·rw [List.getElem?_append_left (by lia)] at hx
    exact List.mem_append_left _ (hc i t hia hx p1 x1 hp1 hx1 r' p' hr' hpe one ho)
   ·have : i = at_ := by lia
    subst this
    rw [List.getElem?_append_left hlt, ht0] at hx
    cases hx
    rw [hp] at hp1; cases hp1
    exact a6 x1 hx1 r' p' hr' hpe one ho
  refine sc_if (decide (d < p.2.length)) (fun P0 q0 => ?_) ?_
  ·dsimp only [JA,JB,JC,JD,JE,JF,JG,EA,EB,EC,ED,EE,EF,EG,EH,EI,EJ,EK,EL,EM,EN,EO,EP,EQ,ER,ES,ET,EU,EV,EW,EX,EY,EZ,Ea,Eb,Ec]
   refine ⟨_, ed3, _, rfl, r_lenL hpart (by rw [vStrs_length]; simp only [room]; lia) ?_⟩
   have : decide ((d : Int) < ((vStrs p.2).length : Int)) = decide (d < p.2.length) := decide_eq_decide.mpr (by rw [vStrs_length]; lia)
   show P0 (decide ((d : Int) < ((vStrs p.2).length : Int))) h'
   rw [this]; exact q0
  ·by_cases hdl : d < p.2.length
   ·rw [if_pos (by simpa using hdl)]
    obtain ⟨x, hx⟩ : ∃ x, p.2[d]? = some x := ⟨_, List.getElem?_eq_getElem hdl⟩
    refine sc_assign ?_
    dsimp only [EA,EB,EC,ED,EE,EF,EG,EH,EI,EJ,EK,EL,EM,EN,EO,EP,EQ,ER,ES,ET,EU,EV,EW,EX,EY,EZ,Ea,Eb,Ec]
    refine ⟨_, rfl, _, ed3, ?_⟩
    dsimp only [binop, onI, onW, addW, mulW]
    have ed1 : ((d : Int) + 1).toNat = d + 1 := by lia
    refine ⟨vStrs p.2, ⟨hpart, by lia, by unfold small; lia, by rw [vStrs_length]; simp only [room]; lia⟩, ?_⟩
    rw [ed1]
    have edr : (vStrs p.2).drop (d + 1) = vStrs (p.2.drop (d + 1)) := by unfold vStrs; rw [List.map_drop]
    rw [edr]
    generalize hrest : p.2.drop (d + 1) = rest
    have hrest8 : rest.length ≤ 8 := by rw [← hrest, List.length_drop]; lia
    have k2 : Kp h (h'.new (.list (vStrs rest))) := k.new _
    have g2 : (h'.new (.list (vStrs rest))).get h'.nxt = some (.list (vStrs rest)) := get_new ..
    have gX2 := get_new_of k.wf (.list (vStrs rest)) gX
    have he5 := he4.upd (y := .rest) (w := .loc h'.nxt) rfl
    generalize h'.new (.list (vStrs rest)) = h2 at k2 g2 gX2
    refine sc_assign ?_
    refine q_bin ?_
    refine q_bin ?_
    refine q_call ?_
    dsimp only [UA,UB,EA,EB,EC,ED,EE,EF,EG,EH,EI,EJ,EK,EL,EM,EN,EO,EP,EQ,ER,ES,ET,EU,EV,EW,EX,EY,EZ,Ea,Eb,Ec]
    refine ⟨_, he5 .pairs _ rfl, _, rfl, _, he5 .empty _ rfl, sp_law_begins k2.wf (P.kp k2) hlen hpl (k2.get he) g2 hrest8 fun h3 N3 res k3 g3 hres h12 => ?_⟩
    dsimp only [JA,JB,JC,JD,JE,JF,JG,EA,EB,EC,ED,EE,EF,EG,EH,EI,EJ,EK,EL,EM,EN,EO,EP,EQ,ER,ES,ET,EU,EV,EW,EX,EY,EZ,Ea,Eb,Ec,UA,UB]
    refine ⟨_, rfl, _, he5 .empty _ rfl, sp_ahead k3.wf (k3.get g2) (k3.get (k2.get he)) (by lia) fun h4 N4 k4 g4 => ?_⟩
    refine r_gett (n := 1) (by lia) rfl ⟨_, rfl, ?_⟩
    have go : ∀ h6 N6 (S : List Nm), Kp h4 h6 → h6.get N6 = some (.list (vStrs S)) → S.length ≤ 14 → (∀ one, one ∈ S ↔ SigOk ps (memB emp) rest s one) →
      wSs (CL prog (n + 2)) (.cons (.for_ [.other, .pair] (.enum (.var .pairs)) (.cons (.ite (.cmp .eq (.sub (.var .pair) (.int 0)) (.sub (.var .parts) (.var .dot))) (.cons (.assign .line (.bin .add (.var .line) (.comp (.tup (.cons (.var .other) (.cons (.int 0) (.cons (.var .one) .nil)))) [.one] (.seq (.b1 .sortedSet (.var .signs))) (.cmp .notin (.tup (.cons (.var .other) (.cons (.int 0) (.cons (.var .one) .nil)))) (.var .line))))) .nil) .nil) .nil)) .nil)
       (upd (upd (upd e3 .parts (.loc kk)) .rest (.loc h'.nxt)) .signs (.loc N6)) h6 (fun fl e' h' => match fl with | .next => wSs (CL prog (n + 2)) (.cons (.assign .at_ (.bin .add (.var .at_) (.int 1))) .nil) e' h' (fun fl e' h' => match fl with | .ret v => Q v h' | _ => K e' h') | .ret v => Q v h' | .cont => K e' h') := by
     intro h6 N6 S k6 g6 hS14 hS
     have k26 : Kp h2 h6 := (k3.trans k4).trans k6
     have kh6 : Kp h h6 := k2.trans k26
     have he7 := he5.upd (y := .signs) (w := .loc N6) rfl
     refine sc_for ?_
     dsimp only [UC,UD,UE,EA,EB,EC,ED,EE,EF,EG,EH,EI,EJ,EK,EL,EM,EN,EO,EP,EQ,ER,ES,ET,EU,EV,EW,EX,EY,EZ,Ea,Eb,Ec]
     refine ⟨_, he7 .pairs _ rfl, ?_⟩
     refine for_enum (vs := (ps.zip ks).map fun x => V.tup [.str x.1.1, .loc x.2]) (fun j e9 h9 => ∃ N9 Y, PoE h h6 l el kk d N6 ps emp B X S x at_ j e9 h9 N9 Y)
       (by rw [P.zlen]; simp only [room]; lia) (by decide) ?_ ?_ ?_ ⟨N, [], kh6, Ke.refl kh6.wf, he7, e13, e23, rfl, ed3, rfl, by rw [List.append_nil]; exact k26.get gX2, by rw [List.append_nil]; exact hs, by rw [List.append_nil]; exact hv, fun r' p' hr' => absurd hr' (Nat.not_lt_zero _), by rw [List.append_nil]; exact Nat.le_refl _⟩
     ·rintro j e9 h9 ⟨_, _, k9, _⟩
      exact (P.kp k9).at_
     ·rintro j e9 h9 v hvv ⟨N9, Y, k9, k69, he9, a1, a2, a3, a4, a5, a6, a7, a8, a9, a10⟩ K' hK'
      obtain ⟨p1, kk1, hp1, hkk1, rfl, hpart1⟩ := (P.kp k9).get hvv
      have he10 := (he9.upd (y := .other) (w := .int (j : Int)) rfl).upd (y := .pair) (w := .tup [.str p1.1, .loc kk1]) rfl
      have hpk9 : h9.get kk = some (.list (vStrs p.2)) := Kp.get (k26.trans k69) ((P.kp k2).part r p kk hp hkk)
      have hjl := lt_of_get hp1
      refine sc_if (decide (p1.1 = x)) (fun P0 q0 => ?_) ?_
      ·dsimp only [JA,JB,JC,JD,JE,JF,JG,EA,EB,EC,ED,EE,EF,EG,EH,EI,EJ,EK,EL,EM,EN,EO,EP,EQ,ER,ES,ET,EU,EV,EW,EX,EY,EZ,Ea,Eb,Ec]
       refine ⟨_, rfl, r_gett (n := 0) (by lia) rfl ⟨_, a3, _, a4, r_get (v := .str x) hpk9 (by lia) (vStrs_at hx) ⟨_, rfl, q0⟩⟩⟩
      ·by_cases hpx : p1.1 = x
       ·rw [if_pos (by simpa using hpx)]
        refine sc_assign ?_
        refine q_bin ?_
        refine r_var (v := .loc N9) a1 ?_
        refine po_news (T := X ++ Y) (S := S) (j := j) k9.wf a1 a5 rfl a6 (k69.get g6) hS14 fun h11 Z k10 hZm hZl => ?_
        have k12 : Kp h9 (h11.new (.list (Z.map fun one => vTr (j, 0, one)))) := k10.new _
        refine ⟨(X ++ Y).map vTr, Z.map fun one => vTr (j, 0, one), ⟨get_new_of k10.wf _ (k10.get a6), get_new .., by rw [List.length_map, List.length_map]; simp only [room]; lia⟩, ?_⟩
        have k13 : Kp h9 ((h11.new (.list (Z.map fun one => vTr (j, 0, one)))).new (.list ((X ++ Y).map vTr ++ Z.map fun one => vTr (j, 0, one)))) := k12.new _
        have ez : (X ++ Y).map vTr ++ Z.map (fun one => vTr (j, 0, one)) = (X ++ (Y ++ Z.map fun one => (j, 0, one))).map vTr := by simp [List.map_append, List.map_map, Function.comp_def]
        dsimp only [UF,UG]
        have hsub : ∀ t ∈ X ++ (Y ++ Z.map fun one => ((j, 0, one) : Tr)), t ∈ X ++ Y ∨ ∃ one ∈ Z, t = (j, 0, one) := fun t ht => by
         rw [← List.append_assoc] at ht
         rcases List.mem_append.mp ht with ht | ht
         ·exact .inl ht
         ·obtain ⟨one, h1, rfl⟩ := List.mem_map.mp ht; exact .inr ⟨one, h1, rfl⟩
        refine hK' _ _ ⟨_, Y ++ Z.map fun one => (j, 0, one), k9.trans k13, k69.trans k13, he10.upd rfl, rfl, a2, a3, a4, a5, by rw [← ez]; exact get_new .., fun t ht => ?_, fun t ht => ?_, fun r' p' hr' hrp hpe one ho => ?_, ?_⟩
        ·rcases hsub t ht with ht | ⟨one, h1, rfl⟩
         ·exact a7 t ht
         ·refine .step hR hp hx hp1 hpx ?_
          rw [hrest]; exact (hS one).mp ((hZm one).mp h1).1
        ·rcases hsub t ht with ht | ⟨one, h1, rfl⟩
         ·exact a8 t ht
         ·exact ⟨p1, hp1, Nat.zero_le _⟩
        ·rw [← List.append_assoc]
         by_cases hrj : r' < j
         ·exact List.mem_append_left _ (a9 r' p' hrj hrp hpe one ho)
         ·have : r' = j := by lia
          subst this
          by_cases hin : (r', 0, one) ∈ X ++ Y
          ·exact List.mem_append_left _ hin
          ·exact List.mem_append_right _ (List.mem_map.mpr ⟨one, (hZm one).mpr ⟨ho, hin⟩, rfl⟩)
        ·rw [← List.append_assoc]
         cases hZc : Z with
         | nil => rw [List.map_nil, List.append_nil]; exact a10
         | cons z Z' =>
          have hzm : z ∈ Z := by rw [hZc]; exact .head _
          have hlt2 := slackT_lt (np := ps.length) (X := X ++ Y) (Y := X ++ Y ++ Z.map fun one => ((j, 0, one) : Tr)) (fun t ht => List.mem_append_left _ ht) hjl (List.mem_append_right _ (List.mem_map.mpr ⟨z, hzm, rfl⟩)) ((hZm z).mp hzm).2
          rw [← hZc]
          rw [List.length_append (bs := Z.map _), List.length_map]
          lia
       ·rw [if_neg (by simpa using hpx)]
        dsimp only [UF,UG]
        refine hK' _ _ ⟨N9, Y, k9, k69, he10, a1, a2, a3, a4, a5, a6, a7, a8, fun r' p' hr' hrp hpe one ho => ?_, a10⟩
        by_cases hrj : r' < j
        ·exact a9 r' p' hrj hrp hpe one ho
        ·have : r' = j := by lia
         subst this
         rw [hp1] at hrp; cases hrp; exact absurd hpe hpx
     ·rintro e9 h9 ⟨N9, Y, k9, k69, he9, a1, a2, a3, a4, a5, a6, a7, a8, a9, a10⟩
      rw [P.zlen] at a9
      dsimp only [UF,UG,YA,YB,YC,YD,YE,YF,YG,YH,YI,YJ,YK,YL,EA,EB,EC,ED,EE,EF,EG,EH,EI,EJ,EK,EL,EM,EN,EO,EP,EQ,ER,ES,ET,EU,EV,EW,EX,EY,EZ,Ea,Eb,Ec]
      refine ⟨_, a2, ?_⟩
      refine fin e9 h9 N9 Y k9 he9 a1 a2 a6 a7 a8 (fun x' hx' r' p' hr' hpe one ho => ?_) a10
      rw [hx] at hx'; cases hx'
      exact a9 r' p' (lt_of_get hr') hr' hpe one ((hS one).mpr (by rw [← hrest]; exact ho))
    have hSig := sig_iff (s := s) hres
    cases hO : (ahead (memB emp) rest).2 with
    | true =>
     rw [hO] at hSig
     refine (if_pos (c := true = true) rfl).mpr ?_
     refine ⟨_, es3, by simp, ?_⟩
     have k5 : Kp h4 _ := (Ke.refl (W := NoW) k4.wf).new (.list [V.str s])
     refine add_strs (Z := [s]) k5.wf (k5.get (k4.get g3)) (get_new ..) (Nat.le_trans (Nat.add_le_add_right h12 1) (by decide)) fun h6 k6 g6 => ⟨by simp, ?_⟩
     have k7 := k6.new (.list [V.str .nil])
     refine add_strs (A := res ++ [s]) (Z := [.nil]) k7.wf (get_new_of k6.wf _ g6) (get_new ..) (by rw [List.length_append]; simp only [List.length_cons, List.length_nil]; lia) fun h8 k8 g8 => ?_
     refine go _ _ _ ((k5.trans k7).trans k8) g8 (by rw [List.length_append, List.length_append]; simp only [List.length_cons, List.length_nil]; lia) hSig
    | false =>
     rw [hO] at hSig
     refine (if_neg (c := false = true) (by simp)).mpr ?_
     refine ⟨by simp, ?_⟩
     have k5 : Kp h4 _ := (Ke.refl (W := NoW) k4.wf).new (.list [])
     refine add_strs (Z := []) k5.wf (k5.get (k4.get g3)) (get_new ..) (Nat.le_trans h12 (by decide)) fun h6 k6 g6 => ⟨by simp, ?_⟩
     have k7 := k6.new (.list [V.str .nil])
     refine add_strs (A := res ++ []) (Z := [.nil]) k7.wf (get_new_of k6.wf _ g6) (get_new ..) (by rw [List.append_nil]; simp only [List.length_cons, List.length_nil]; lia) fun h8 k8 g8 => ?_
     refine go _ _ _ ((k5.trans k7).trans k8) g8 (by rw [List.append_nil, List.length_append]; simp only [List.length_cons, List.length_nil]; lia) hSig
   ·rw [if_neg (by simpa using hdl)]
    dsimp only [UF,UG,YA,YB,YC,YD,YE,YF,YG,YH,YI,YJ,YK,YL,EA,EB,EC,ED,EE,EF,EG,EH,EI,EJ,EK,EL,EM,EN,EO,EP,EQ,ER,ES,ET,EU,EV,EW,EX,EY,EZ,Ea,Eb,Ec]
    refine ⟨_, e23, ?_⟩
    exact fin _ h' N [] k he4 e13 e23 (by rw [List.append_nil]; exact gX) (by rw [List.append_nil]; exact hs) (by rw [List.append_nil]; exact hv) (fun x hx => absurd (lt_of_get hx) hdl) (by rw [List.append_nil]; exact Nat.le_refl _)
 ·refine (if_neg (c := decide ((at_ : Int) < (X.length : Int)) = true) (by simpa using hlt)).mpr ?_
  refine sc_ret ?_
  dsimp only [EA,EB,EC,ED,EE,EF,EG,EH,EI,EJ,EK,EL,EM,EN,EO,EP,EQ,ER,ES,ET,EU,EV,EW,EX,EY,EZ,Ea,Eb,Ec]
  refine ⟨_, e1, q _ _ X k gX (by lia) hv fun r d s => ⟨fun ht => hs _ ht, fun hr => ?_⟩⟩
  induction hr with
  | base ht => exact hb _ ht
  | step hr hp hx hp' hpe ho ih =>
   obtain ⟨i, hi, hxi⟩ := List.getElem_of_mem ih
   exact hc i _ (by lia) (by rw [List.getElem?_eq_getElem hi, hxi]) _ _ hp hx _ _ hp' hpe _ ho
end
end Mine
end
section
namespace Mine
section
variable {h : MH} {n : Nat} {C : CS}
theorem Ke.fresh {h h' : MH} {o : MO} (w : Wf h) (k : Ke (fun l => l = h.nxt) (h.new o) h') : Kp h h' :=
 ⟨Nat.le_trans (Nat.le_succ _) k.le, fun l o' e _ => k.keep l o' (get_new_of w _ e) (Nat.ne_of_lt (w.lt e)), k.wf, k.old⟩
theorem q_setAttr {e : Env} {f : Fd} {v : E} {ss : Ss} {Q : Fl → Env → MH → Prop} (q : wE C v e h fun vv h1 => HasV (e .self) fun o => setAttrop o f vv h1 fun h2 => wSs C ss e h2 Q) : wSs C (.cons (.setAttr f v) ss) e h Q := by dsimp only [UF,UG,YA,YB,YC,YD,YE,YF,YG,YH,YI,YJ,YK,YL]; exact q
theorem q_put {s : Nat} {c : Cl} {fs : Fd → Option V} {f : Fd} {v : V} {P : MH → Prop} (hg : h.get s = some (.inst c fs)) (hf : fieldOf c f = true) (q : P (h.set s (.inst c fun g => if g = f then some v else fs g))) : setAttrop (.loc s) f v h P :=
 ⟨s, c, fs, ⟨rfl, hg, hf⟩, q⟩
theorem sp_ruleInit {s : Nat} {fs0 : Fd → Option V} {v1 v2 v3 v4 : V} {Q : V → MH → Prop} (w : Wf h) (hg : h.get s = some (.inst .rule fs0))
  (q : ∀ h' fs, Ke (fun l => l = s) h h' → h'.get s = some (.inst .rule fs) → fs .number = some v1 → fs .left = some v2 → fs .right = some v3 → Q .none h') : CL prog (n + 1) .ruleInit [.loc s, v1, v2, v3, v4] h Q := by
 have hs := w.lt hg
 have k0 : Ke (fun l => l = s) h h := Ke.refl w
 have k1 := fun (h' : MH) (o : MO) (k : Ke (fun l => l = s) h h') => k.set (l := s) o (.inr rfl) (Nat.lt_of_lt_of_le hs k.le)
 refine ⟨_, rfl, ?_⟩
 show wSs (CL prog n) body_ruleInit _ h _
 unfold body_ruleInit
 refine q_setAttr (r_var rfl ⟨_, rfl, q_put hg rfl ?_⟩)
 refine q_setAttr (r_var rfl ⟨_, rfl, q_put (get_set ..) rfl ?_⟩)
 refine q_setAttr (r_var rfl ⟨_, rfl, q_put (get_set ..) rfl ?_⟩)
 refine q_setAttr (r_var rfl ⟨_, rfl, q_put (get_set ..) rfl ?_⟩)
 refine q_setAttr (r_var rfl ⟨_, rfl, q_put (get_set ..) rfl ?_⟩)
 refine q_setAttr (r_var rfl ⟨_, rfl, q_put (get_set ..) rfl ?_⟩)
 refine q_setAttr (r_var rfl ⟨_, rfl, q_put (get_set ..) rfl ?_⟩)
 dsimp only [UF,UG]
 exact q _ _ (k1 _ _ (k1 _ _ (k1 _ _ (k1 _ _ (k1 _ _ (k1 _ _ (k1 _ _ k0))))))) (get_set ..) rfl rfl rfl
theorem sp_last_terminal {ws : List Nat} {c : Nat} {Q : V → MH → Prop} (q : ∀ k : Int, Q (.int k) h) : CL prog (n + 1) .last_terminal [.tup (ws.map fun s : Nat => W.int (s : Int)), .int (c : Int)] h Q := by
 refine ⟨_, rfl, ?_⟩
 show wSs (CL prog n) body_last_terminal _ h _
 unfold body_last_terminal
 refine sc_assign ?_
 dsimp only [EA,EB,EC,ED,EE,EF,EG,EH,EI,EJ,EK,EL,EM,EN,EO,EP,EQ,ER,ES,ET,EU,EV,EW,EX,EY,EZ,Ea,Eb,Ec]
 refine sc_for ?_
 dsimp only [UC,UD,UE,EA,EB,EC,ED,EE,EF,EG,EH,EI,EJ,EK,EL,EM,EN,EO,EP,EQ,ER,ES,ET,EU,EV,EW,EX,EY,EZ,Ea,Eb,Ec]
 refine ⟨_, rfl, ?_⟩
 refine for_seq (vs := (ws.map fun s : Nat => W.int (s : Int)).map V.w) (fun j e' h' => h' = h ∧ e' .terminal_count = some (.int (c : Int)) ∧ ∃ k : Int, e' .found = some (.int k)) (fun _ _ _ _ => rfl) ?_ ?_ ⟨rfl, rfl, _, rfl⟩
 ·rintro j e' h' x hx ⟨rfl, e1, k, e2⟩
  obtain ⟨s, hs, rfl⟩ : ∃ s, ws[j]? = some s ∧ V.int (s : Int) = x := map_at2 (f := fun n : Nat => W.int (n : Int)) (g := V.w) hx
  refine ⟨_, rfl, fun K hK => ?_⟩
  refine sc_if (decide ((s : Int) < (c : Int))) (fun P0 q0 => ?_) ?_
  ·dsimp only [JA,JB,JC,JD,JE,JF,JG,EA,EB,EC,ED,EE,EF,EG,EH,EI,EJ,EK,EL,EM,EN,EO,EP,EQ,ER,ES,ET,EU,EV,EW,EX,EY,EZ,Ea,Eb,Ec]
   exact ⟨_, rfl, _, e1, q0⟩
  ·cases decide ((s : Int) < (c : Int)) with
   | true =>
    rw [if_pos rfl]
    dsimp only [UF,UG,YA,YB,YC,YD,YE,YF,YG,YH,YI,YJ,YK,YL,EA,EB,EC,ED,EE,EF,EG,EH,EI,EJ,EK,EL,EM,EN,EO,EP,EQ,ER,ES,ET,EU,EV,EW,EX,EY,EZ,Ea,Eb,Ec]
    exact ⟨_, rfl, hK _ _ ⟨rfl, e1, _, rfl⟩⟩
   | false =>
    rw [if_neg (by simp)]
    dsimp only [UF,UG]
    exact hK _ _ ⟨rfl, e1, k, e2⟩
 ·rintro e' h' ⟨rfl, e1, k, e2⟩
  dsimp only [UF,UG,YA,YB,YC,YD,YE,YF,YG,YH,YI,YJ,YK,YL,EA,EB,EC,ED,EE,EF,EG,EH,EI,EJ,EK,EL,EM,EN,EO,EP,EQ,ER,ES,ET,EU,EV,EW,EX,EY,EZ,Ea,Eb,Ec]
  exact ⟨_, e2, q k⟩
theorem rulesOf_snoc (rs : List Rl) (r : Rl) (s : Nat) : rulesOf (rs ++ [r]) s = rulesOf rs s ++ (if r.1 = s then [rs.length] else []) := by
 unfold rulesOf
 rw [List.length_append, List.length_singleton, List.range_succ, List.filter_append]
 congr 1
 ·apply List.filter_congr
  intro i hi
  rw [List.getElem?_append_left (List.mem_range.mp hi)]
 ·simp only [List.filter_cons, List.filter_nil, List.getElem?_append_right (Nat.le_refl _), Nat.sub_self]
  by_cases h : r.1 = s <;> simp [h]
theorem offs_snoc (r : Rl) : ∀ (rs : List Rl) (k : Nat), offs (rs ++ [r]) k = offs rs k ++ [k + (owns rs 0).length]
 | [], k => by simp [offs, owns]
 | x :: rs, k => by
  simp only [List.cons_append, offs, offs_snoc r rs, owns, List.length_append, List.length_replicate]
  have : ∀ (rs : List Rl) (a b : Nat), (owns rs a).length = (owns rs b).length := by
   intro rs
   induction rs with
   | nil => intro a b; rfl
   | cons y rs ih => intro a b; simp only [owns, List.length_append, List.length_replicate]; rw [ih (a + 1) (b + 1)]
  rw [this rs (0 + 1) 0, Nat.add_assoc]
theorem owns_snoc (r : Rl) : ∀ (rs : List Rl) (k : Nat), owns (rs ++ [r]) k = owns rs k ++ List.replicate (r.2.length + 1) (k + rs.length)
 | [], k => by simp [owns]
 | x :: rs, k => by
  simp only [List.cons_append, owns, owns_snoc r rs (k + 1), List.append_assoc, List.length_cons]
  rw [show k + 1 + rs.length = k + (rs.length + 1) by lia]
structure GiH (h0 h : MH) (s N ns : Nat) (fs : Fd → Option V) (rs : List Rl) : Prop where
 w0 : Wf h0
 hN : h0.nxt ≤ N
 sN : s < N
 ke : Ke (fun l => l = s) h0 h
 nxt : N + ns + 3 ≤ h.nxt
 self : h.get s = some (.inst .grammar fs)
 by_ : h.get (N + ns) = some (.list ((List.range ns).map fun k => V.loc (N + k)))
 inn : ∀ k, k < ns → h.get (N + k) = some (.list (vInts (rulesOf rs k)))
 off : h.get (N + ns + 1) = some (.list (vInts (offs rs 0)))
 own : h.get (N + ns + 2) = some (.list (vInts (owns rs 0)))
noncomputable def giF (s : Nat) : Env := upd env0 .self (.loc s)
inductive G0H (h0 : MH) (s ln lr : Nat) (names : List Nm) (nt : Nat) (rs : List Rl) (rl : List Nat) : Prop
 | mk (g0 : h0.get s = some (.inst .grammar fun _ => none)) (hn : h0.get ln = some (.list (names.map V.str))) (hr : h0.get lr = some (.list (rl.map V.loc))) (hl : rl.length = rs.length) (hR : ∀ (i : Nat) r l, rs[i]? = some r → rl[i]? = some l → RAt h0 l i r)
  (nrs : rs.length ≤ 40) (nn : names.length ≤ 40) (left : ∀ r ∈ rs, r.1 < names.length ∧ nt ≤ r.1) (right : ∀ r ∈ rs, r.2.length ≤ 8 ∧ ∀ t ∈ r.2, t < names.length) (ntle : nt ≤ names.length)
theorem gi_tail {h0 : MH} {s N : Nat} {ln lr : Nat} {names : List Nm} {nt : Nat} {rs : List Rl} {rl : List Nat} {fs : Fd → Option V} {e : Env} {Q : V → MH → Prop}
  (G0 : G0H h0 s ln lr names nt rs rl)
  (S : GiH h0 h s N names.length fs (rs.take 0)) (b1 : fs .names = some (.loc ln)) (b2 : fs .terminal_count = some (.int (nt : Int))) (b3 : fs .rules = some (.loc lr)) (b4 : fs .number = none)
  (b5 : fs .owners = some (.loc (N + names.length + 2))) (b6 : fs .offsets = some (.loc (N + names.length + 1))) (b7 : fs .by_left = some (.loc (N + names.length))) (heF : SubE (giF s) e)
  (q : ∀ h' L, Ke (fun l => l = s) h0 h' → GAt h' s L names nt rs → L.ln = ln → L.lr = lr → h0.nxt ≤ L.lb ∧ h0.nxt ≤ L.lo ∧ h0.nxt ≤ L.lw ∧ (∀ x ∈ L.bl, h0.nxt ≤ x) → Q .none h') :
  wSs C (.cons (.for_ [.rule] (.seq (.attr (.var .self) .rules)) (.cons (.expr (.append (.sub (.attr (.var .self) .by_left) (.attr (.var .rule) .left)) (.attr (.var .rule) .number))) (.cons (.expr (.append (.attr (.var .self) .offsets) (.b1 .len (.attr (.var .self) .owners)))) (.cons (.expr (.extend (.attr (.var .self) .owners) (.bin .mul (.list (.cons (.attr (.var .rule) .number) .nil)) (.bin .add (.b1 .len (.attr (.var .rule) .right)) (.int 1))))) .nil))))
   (.cons (.setAttr .item_count (.b1 .len (.attr (.var .self) .owners))) .nil)) e h (fun fl _ h' => match fl with | .ret v => Q v h' | .next => Q V.none h' | .cont => False) := by
 obtain ⟨g0, hn, hr, hl, hR, nrs, nnames, left, right, ntle⟩ := G0
 have hns : ln ≠ s := fun z => by subst z; rw [hn] at g0; cases g0
 have hrs : lr ≠ s := fun z => by subst z; rw [hr] at g0; cases g0
 have rat : ∀ {h' : MH}, Ke (fun l => l = s) h0 h' → ∀ (i : Nat) r l, rs[i]? = some r → rl[i]? = some l → RAt h' l i r := fun {h'} k i r l h1 h2 => by
  obtain ⟨fs', q1, q2⟩ := hR i r l h1 h2
  refine ⟨fs', k.keep _ _ q1 fun z => ?_, q2⟩
  subst z; rw [g0] at q1; cases q1
 have olt := owns_length
 refine sc_for ?_
 dsimp only [UC,UD,UE,EA,EB,EC,ED,EE,EF,EG,EH,EI,EJ,EK,EL,EM,EN,EO,EP,EQ,ER,ES,ET,EU,EV,EW,EX,EY,EZ,Ea,Eb,Ec]
 refine ⟨_, heF .self _ rfl, r_attr S.self rfl b3 ?_⟩
 refine for_seq (vs := rl.map V.loc) (fun i e' h' => SubE (giF s) e' ∧ GiH h0 h' s N names.length fs (rs.take i)) ?_ ?_ ?_ ⟨heF, S⟩
 ·rintro i e' h' ⟨_, S'⟩
  simp only [items, S'.ke.keep _ _ hr hrs]
 ·rintro i e' h' v hv ⟨he, S1⟩
  obtain ⟨l, hli, rfl⟩ : ∃ l, rl[i]? = some l ∧ V.loc l = v := map_at hv
  have hi : i < rs.length := by rw [← hl]; exact lt_of_get hli
  have hri : rs[i]? = some rs[i] := List.getElem?_eq_getElem hi
  have hmem : rs[i] ∈ rs := List.getElem_mem hi
  have hleft := (left _ hmem).1
  have hright := (right _ hmem).1
  obtain ⟨fr, q1, q2, q3, q4⟩ := rat S1.ke i _ l hri hli
  have he1 := he.upd (y := .rule) (w := .loc l) rfl
  have htl := List.length_take_le' i rs
  have hti : (rs.take i).length = i := by rw [List.length_take]; lia
  have hown := olt (rs.take i) 0 fun r hr => (right r (List.mem_of_mem_take hr)).1
  have hrul : (rulesOf (rs.take i) rs[i].1).length ≤ 40 := by
   unfold rulesOf
   have := List.length_filter_le (fun k => decide (((rs.take i)[k]?.map (·.1)) = some rs[i].1)) (List.range (rs.take i).length)
   rw [List.length_range] at this; lia
  have hoff : (offs (rs.take i) 0).length = i := by rw [offs_length, hti]
  have hsN := S1.sN
  have hnx := S1.nxt
  refine ⟨_, rfl, fun K hK => ?_⟩
  dsimp only [UF,UG,YA,YB,YC,YD,YE,YF,YG,YH,YI,YJ,YK,YL,EA,EB,EC,ED,EE,EF,EG,EH,EI,EJ,EK,EL,EM,EN,EO,EP,EQ,ER,ES,ET,EU,EV,EW,EX,EY,EZ,Ea,Eb,Ec,UA,UB]
  refine ⟨_, he1 .self _ rfl, r_attr S1.self rfl b7 ⟨_, rfl, r_attr q1 rfl q3 (r_get (v := .loc (N + rs[i].1)) S1.by_ (by lia) (by simp [hleft]) ⟨⟨_, _, rfl, S1.inn _ hleft⟩, _, rfl, r_attr q1 rfl q2 ?_⟩)⟩⟩
  refine ⟨_, _, ⟨rfl, S1.inn _ hleft, by rw [vInts_length]; simp only [room]; lia⟩, rfl, ?_⟩
  have ka := S1.ke.set (l := N + rs[i].1) (.list (vInts (rulesOf (rs.take i) rs[i].1) ++ [V.int (i : Int)])) (.inl (S1.w0 _ (by have := S1.hN; lia))) (by lia)
  generalize hAe : h'.set (N + rs[i].1) (.list (vInts (rulesOf (rs.take i) rs[i].1) ++ [V.int (i : Int)])) = hA at ka ⊢
  have ga : ∀ m, m ≠ N + rs[i].1 → hA.get m = h'.get m := fun m hm => by rw [← hAe]; exact get_set_ne _ _ hm
  have gai : hA.get (N + rs[i].1) = some (.list (vInts (rulesOf (rs.take i) rs[i].1) ++ [V.int (i : Int)])) := by rw [← hAe]; exact get_set ..
  have nxa : hA.nxt = h'.nxt := by rw [← hAe]; rfl
  have sA : hA.get s = some (.inst .grammar fs) := by rw [ga _ (by lia)]; exact S1.self
  refine ⟨_, he1 .self _ rfl, r_attr sA rfl b6 ⟨⟨_, _, rfl, by rw [ga _ (by lia)]; exact S1.off⟩, _, he1 .self _ rfl, r_attr sA rfl b5 (r_lenL (by rw [ga _ (by lia)]; exact S1.own) (by rw [vInts_length]; simp only [room]; lia) ?_)⟩⟩
  refine ⟨_, _, ⟨rfl, by rw [ga _ (by lia)]; exact S1.off, by rw [vInts_length, hoff]; simp only [room]; lia⟩, rfl, ?_⟩
  rw [vInts_length]
  have kb := ka.set (l := N + names.length + 1) (.list (vInts (offs (rs.take i) 0) ++ [V.int ((owns (rs.take i) 0).length : Int)])) (.inl (S1.w0 _ (by have := S1.hN; lia))) (by lia)
  generalize hBe : hA.set (N + names.length + 1) (.list (vInts (offs (rs.take i) 0) ++ [V.int ((owns (rs.take i) 0).length : Int)])) = hB at kb ⊢
  have gb : ∀ m, m ≠ N + names.length + 1 → hB.get m = hA.get m := fun m hm => by rw [← hBe]; exact get_set_ne _ _ hm
  have gbi : hB.get (N + names.length + 1) = some (.list (vInts (offs (rs.take i) 0) ++ [V.int ((owns (rs.take i) 0).length : Int)])) := by rw [← hBe]; exact get_set ..
  have nxb : hB.nxt = h'.nxt := by rw [← nxa, ← hBe]; rfl
  have sB : hB.get s = some (.inst .grammar fs) := by rw [gb _ (by lia)]; exact sA
  have oB : hB.get (N + names.length + 2) = some (.list (vInts (owns (rs.take i) 0))) := by rw [gb _ (by lia), ga _ (by lia)]; exact S1.own
  obtain ⟨fr, q1, q2, q3, q4⟩ := rat kb i _ l hri hli
  refine ⟨_, he1 .self _ rfl, r_attr sB rfl b5 ⟨⟨_, _, rfl, oB⟩, _, rfl, r_attr q1 rfl q2 ⟨by simp, ?_⟩⟩⟩
  have kc := kb.new (.list [V.int (i : Int)])
  refine ⟨_, rfl, r_attr (get_new_of kb.wf _ q1) rfl q4 (r_lenT (by simp only [room, List.length_map]; lia) ?_)⟩
  dsimp only [binop, onI, onW, addW, mulW]
  have e1 : ((((rs[i].2.map fun n : Nat => W.int (n : Int)).length : Nat) : Int) + 1) = ((rs[i].2.length + 1 : Nat) : Int) := by simp
  rw [e1]
  refine ⟨V.int (i : Int), ⟨get_new .., by lia, by lia⟩, ?_⟩
  rw [show ((rs[i].2.length + 1 : Nat) : Int).toNat = rs[i].2.length + 1 from rfl]
  have kd := kc.new (.list (List.replicate (rs[i].2.length + 1) (V.int (i : Int))))
  refine ⟨N + names.length + 2, _, _, _, ⟨rfl, rfl, get_new_of kc.wf _ (get_new_of kb.wf _ oB), get_new .., by rw [vInts_length, List.length_replicate]; simp only [room]; lia⟩, rfl, hK _ _ ⟨he1, ?_⟩⟩
  have nxd : ((hB.new (.list [V.int (i : Int)])).new (.list (List.replicate (rs[i].2.length + 1) (V.int (i : Int))))).nxt = h'.nxt + 2 := by show hB.nxt + 1 + 1 = _; rw [nxb]
  have gd : ∀ m o, hB.get m = some o → ((hB.new (.list [V.int (i : Int)])).new (.list (List.replicate (rs[i].2.length + 1) (V.int (i : Int))))).get m = some o := fun m o e => get_new_of kc.wf _ (get_new_of kb.wf _ e)
  have htk : rs.take (i + 1) = rs.take i ++ [rs[i]] := by rw [List.take_add_one, hri]; rfl
  refine ⟨S1.w0, S1.hN, S1.sN, kd.set _ (.inl (S1.w0 _ (by have := S1.hN; lia))) (by lia), ?_, ?_, ?_, fun k hk => ?_, ?_, ?_⟩
  ·show N + names.length + 3 ≤ ((hB.new (.list [V.int (i : Int)])).new (.list (List.replicate (rs[i].2.length + 1) (V.int (i : Int))))).nxt
   lia
  ·rw [get_set_ne _ _ (by lia)]; exact gd _ _ sB
  ·rw [get_set_ne _ _ (by lia)]; refine gd _ _ ?_; rw [gb _ (by lia), ga _ (by lia)]; exact S1.by_
  ·rw [get_set_ne _ _ (by lia)]
   refine gd _ _ ?_
   rw [gb _ (by lia), htk, rulesOf_snoc, hti]
   by_cases hki : k = rs[i].1
   ·subst hki
    rw [gai, if_pos rfl]; simp [vInts]
   ·rw [ga _ (by lia), if_neg fun z => hki z.symm, List.append_nil]; exact S1.inn k hk
  ·rw [get_set_ne _ _ (by lia)]
   refine gd _ _ ?_
   rw [gbi, htk, offs_snoc, Nat.zero_add]; simp [vInts]
  ·rw [get_set, htk, owns_snoc, hti, Nat.zero_add]; simp [vInts]
 ·rintro e' h' ⟨he, S1⟩
  rw [List.length_map, hl, List.take_length] at S1
  have hown := olt rs 0 fun r hr => (right r hr).1
  refine q_setAttr ?_
  dsimp only [EA,EB,EC,ED,EE,EF,EG,EH,EI,EJ,EK,EL,EM,EN,EO,EP,EQ,ER,ES,ET,EU,EV,EW,EX,EY,EZ,Ea,Eb,Ec]
  refine ⟨_, he .self _ rfl, r_attr S1.self rfl b5 (r_lenL S1.own (by rw [vInts_length]; simp only [room]; lia) ⟨_, he .self _ rfl, q_put S1.self rfl ?_⟩)⟩
  have hsN := S1.sN
  have hnx := S1.nxt
  dsimp only [UF,UG]
  have kz := S1.ke.set (l := s) (.inst .grammar fun g => if g = .item_count then some (.int ((vInts (owns rs 0)).length : Int)) else fs g) (.inr rfl) (by lia)
  have ff : ∀ g, g ≠ .item_count → (fun g => if g = Fd.item_count then some (V.int ((vInts (owns rs 0)).length : Int)) else fs g) g = fs g := fun g hg => if_neg hg
  refine q _ ⟨fun g => if g = .item_count then some (.int ((vInts (owns rs 0)).length : Int)) else fs g, ln, lr, N + names.length, N + names.length + 1, N + names.length + 2, rl, (List.range names.length).map fun k => N + k⟩ kz ?_ rfl rfl ⟨by have := S1.hN; show h0.nxt ≤ N + names.length; lia, by have := S1.hN; show h0.nxt ≤ N + names.length + 1; lia, by have := S1.hN; show h0.nxt ≤ N + names.length + 2; lia, fun x hx => by
   obtain ⟨k, _, rfl⟩ := List.mem_map.mp hx
   have := S1.hN; show h0.nxt ≤ N + k; lia⟩
  exact {
   at_ := get_set ..
   nonum := (ff .number (by decide)).trans b4
   fnames := (ff .names (by decide)).trans b1
   hnames := kz.keep _ _ hn hns
   fnt := (ff .terminal_count (by decide)).trans b2
   frules := (ff .rules (by decide)).trans b3
   hrules := kz.keep _ _ hr hrs
   nrules := hl
   rule := rat kz
   fby := (ff .by_left (by decide)).trans b7
   hby := by rw [get_set_ne _ _ (by show N + names.length ≠ s; lia)]; rw [List.map_map]; exact S1.by_
   nby := by simp
   by_ := fun k l hk => by
    have hlt := lt_of_get hk
    rw [List.length_map, List.length_range] at hlt
    rw [List.getElem?_map, List.getElem?_range hlt] at hk
    cases hk
    rw [get_set_ne _ _ (by show N + k ≠ s; lia)]; exact S1.inn k hlt
   foff := (ff .offsets (by decide)).trans b6
   hoff := by rw [get_set_ne _ _ (by show N + names.length + 1 ≠ s; lia)]; exact S1.off
   fown := (ff .owners (by decide)).trans b5
   hown := by rw [get_set_ne _ _ (by show N + names.length + 2 ≠ s; lia)]; exact S1.own
   nrs := nrs
   nnames := nnames
   left := left
   right := right
   ntle := ntle }
inductive BlI (h : MH) (s : Nat) (fs6 : Fd → Option V) (i : Nat) (acc : List V) (hh : MH) : Prop
 | mk (ha : acc = (List.range i).map (fun k => V.loc (h.nxt + k))) (hn : hh.nxt = h.nxt + i) (k : Ke (fun l => l = s) h hh) (g : hh.get s = some (.inst .grammar fs6)) (hi : ∀ k, k < i → hh.get (h.nxt + k) = some (.list []))
theorem sp_grammarInit {s ln lr : Nat} {names : List Nm} {nt : Nat} {rs : List Rl} {rl : List Nat} {v4 v5 v6 : V} {Q : V → MH → Prop} (w : Wf h) (hg : h.get s = some (.inst .grammar fun _ => none))
  (hn : h.get ln = some (.list (names.map V.str))) (hr : h.get lr = some (.list (rl.map V.loc))) (hl : rl.length = rs.length) (hR : ∀ (i : Nat) r l, rs[i]? = some r → rl[i]? = some l → RAt h l i r)
  (nrs : rs.length ≤ 40) (nnames : names.length ≤ 40) (left : ∀ r ∈ rs, r.1 < names.length ∧ nt ≤ r.1) (right : ∀ r ∈ rs, r.2.length ≤ 8 ∧ ∀ t ∈ r.2, t < names.length) (ntle : nt ≤ names.length)
  (q : ∀ h' L, Ke (fun l => l = s) h h' → GAt h' s L names nt rs → L.ln = ln → L.lr = lr → h.nxt ≤ L.lb ∧ h.nxt ≤ L.lo ∧ h.nxt ≤ L.lw ∧ (∀ x ∈ L.bl, h.nxt ≤ x) → Q .none h') : CL prog (n + 1) .grammarInit [.loc s, .loc ln, .int (nt : Int), .loc lr, v4, v5, v6] h Q := by
 have hs := w.lt hg
 have G0 : G0H h s ln lr names nt rs rl := ⟨hg, hn, hr, hl, hR, nrs, nnames, left, right, ntle⟩
 have k0 : Ke (fun l => l = s) h h := Ke.refl w
 have k1 := fun (h' : MH) (o : MO) (k : Ke (fun l => l = s) h h') => k.set (l := s) o (.inr rfl) (Nat.lt_of_lt_of_le hs k.le)
 refine ⟨_, rfl, ?_⟩
 show wSs (CL prog n) body_grammarInit _ h _
 unfold body_grammarInit
 refine q_setAttr (r_var rfl ⟨_, rfl, q_put hg rfl ?_⟩)
 refine q_setAttr (r_var rfl ⟨_, rfl, q_put (get_set ..) rfl ?_⟩)
 refine q_setAttr (r_var rfl ⟨_, rfl, q_put (get_set ..) rfl ?_⟩)
 refine q_setAttr (r_var rfl ⟨_, rfl, q_put (get_set ..) rfl ?_⟩)
 refine q_setAttr (r_var rfl ⟨_, rfl, q_put (get_set ..) rfl ?_⟩)
 refine q_setAttr (r_var rfl ⟨_, rfl, q_put (get_set ..) rfl ?_⟩)
 have k6 := k1 _ (.inst .grammar fun g => if g = .start then some v6 else if g = .expect then some v5 else if g = .levels then some v4 else if g = .rules then some (.loc lr) else if g = .terminal_count then some (.int (nt : Int)) else if g = .names then some (.loc ln) else none)
  (k1 _ (.inst .grammar fun g => if g = .expect then some v5 else if g = .levels then some v4 else if g = .rules then some (.loc lr) else if g = .terminal_count then some (.int (nt : Int)) else if g = .names then some (.loc ln) else none)
  (k1 _ (.inst .grammar fun g => if g = .levels then some v4 else if g = .rules then some (.loc lr) else if g = .terminal_count then some (.int (nt : Int)) else if g = .names then some (.loc ln) else none)
  (k1 _ (.inst .grammar fun g => if g = .rules then some (.loc lr) else if g = .terminal_count then some (.int (nt : Int)) else if g = .names then some (.loc ln) else none)
  (k1 _ (.inst .grammar fun g => if g = .terminal_count then some (.int (nt : Int)) else if g = .names then some (.loc ln) else none)
  (k1 _ (.inst .grammar fun g => if g = .names then some (.loc ln) else none) k0)))))
 have g6 : (((((((h.set s (.inst .grammar fun g => if g = .names then some (.loc ln) else none)).set s (.inst .grammar fun g => if g = .terminal_count then some (.int (nt : Int)) else if g = .names then some (.loc ln) else none)).set s (.inst .grammar fun g => if g = .rules then some (.loc lr) else if g = .terminal_count then some (.int (nt : Int)) else if g = .names then some (.loc ln) else none)).set s (.inst .grammar fun g => if g = .levels then some v4 else if g = .rules then some (.loc lr) else if g = .terminal_count then some (.int (nt : Int)) else if g = .names then some (.loc ln) else none)).set s (.inst .grammar fun g => if g = .expect then some v5 else if g = .levels then some v4 else if g = .rules then some (.loc lr) else if g = .terminal_count then some (.int (nt : Int)) else if g = .names then some (.loc ln) else none)).set s (.inst .grammar fun g => if g = .start then some v6 else if g = .expect then some v5 else if g = .levels then some v4 else if g = .rules then some (.loc lr) else if g = .terminal_count then some (.int (nt : Int)) else if g = .names then some (.loc ln) else none))).get s = _ := get_set ..
 have nx6 : (((((((h.set s (.inst .grammar fun g => if g = .names then some (.loc ln) else none)).set s (.inst .grammar fun g => if g = .terminal_count then some (.int (nt : Int)) else if g = .names then some (.loc ln) else none)).set s (.inst .grammar fun g => if g = .rules then some (.loc lr) else if g = .terminal_count then some (.int (nt : Int)) else if g = .names then some (.loc ln) else none)).set s (.inst .grammar fun g => if g = .levels then some v4 else if g = .rules then some (.loc lr) else if g = .terminal_count then some (.int (nt : Int)) else if g = .names then some (.loc ln) else none)).set s (.inst .grammar fun g => if g = .expect then some v5 else if g = .levels then some v4 else if g = .rules then some (.loc lr) else if g = .terminal_count then some (.int (nt : Int)) else if g = .names then some (.loc ln) else none)).set s (.inst .grammar fun g => if g = .start then some v6 else if g = .expect then some v5 else if g = .levels then some v4 else if g = .rules then some (.loc lr) else if g = .terminal_count then some (.int (nt : Int)) else if g = .names then some (.loc ln) else none))).nxt = h.nxt := rfl
 generalize hfs6 : (fun g : Fd => if g = .start then some v6 else if g = .expect then some v5 else if g = .levels then some v4 else if g = .rules then some (V.loc lr) else if g = .terminal_count then some (.int (nt : Int)) else if g = .names then some (.loc ln) else none) = fs6 at k6 g6 nx6 ⊢
 generalize ((((((h.set s (.inst .grammar fun g => if g = .names then some (.loc ln) else none)).set s (.inst .grammar fun g => if g = .terminal_count then some (.int (nt : Int)) else if g = .names then some (.loc ln) else none)).set s (.inst .grammar fun g => if g = .rules then some (.loc lr) else if g = .terminal_count then some (.int (nt : Int)) else if g = .names then some (.loc ln) else none)).set s (.inst .grammar fun g => if g = .levels then some v4 else if g = .rules then some (.loc lr) else if g = .terminal_count then some (.int (nt : Int)) else if g = .names then some (.loc ln) else none)).set s (.inst .grammar fun g => if g = .expect then some v5 else if g = .levels then some v4 else if g = .rules then some (.loc lr) else if g = .terminal_count then some (.int (nt : Int)) else if g = .names then some (.loc ln) else none)).set s (.inst .grammar fs6)) = h6 at k6 g6 nx6 ⊢
 have a1 : fs6 .names = some (.loc ln) := by rw [← hfs6]; rfl
 have a2 : fs6 .terminal_count = some (.int (nt : Int)) := by rw [← hfs6]; rfl
 have a3 : fs6 .rules = some (.loc lr) := by rw [← hfs6]; rfl
 have a4 : fs6 .number = none := by rw [← hfs6]; rfl
 clear hfs6 k1 k0
 have hns : ln ≠ s := fun z => by subst z; rw [hn] at hg; cases hg
 have hrs : lr ≠ s := fun z => by subst z; rw [hr] at hg; cases hg
 have heF : SubE (giF s) (upd (upd (upd (upd (upd (upd (upd env0 .start v6) .expect v5) .levels v4) .rules (.loc lr)) .terminal_count (.int (nt : Int))) .names (.loc ln)) .self (.loc s)) := .cons .nil rfl
 refine q_setAttr ?_
 refine q_comp ?_
 dsimp only [UC,UD,UE,EA,EB,EC,ED,EE,EF,EG,EH,EI,EJ,EK,EL,EM,EN,EO,EP,EQ,ER,ES,ET,EU,EV,EW,EX,EY,EZ,Ea,Eb,Ec,UA,UB,JA,JB,JC,JD,JE,JF,JG]
 refine ⟨_, heF .self _ rfl, r_attr g6 rfl a1 ?_⟩
 refine for_seq (vs := names.map V.str) (BlI h s fs6) ?_ ?_ ?_ ⟨rfl, nx6, k6, g6, fun k hk => absurd hk (Nat.not_lt_zero _)⟩
 ·rintro i acc hh ⟨_, _, kk, _⟩
  simp only [items, kk.keep _ _ hn hns]
 ·rintro i acc hh x hx ⟨ha, hnx, kk, gs, ginn⟩
  have hi := lt_of_get hx
  rw [List.length_map] at hi
  refine ⟨_, rfl, fun K hK => ?_⟩
  simp only [if_true]
  refine ⟨by simp, by rw [ha]; simp [room]; lia, hK _ _ ⟨?_, ?_, kk.new _, get_new_of kk.wf _ gs, fun k hk => ?_⟩⟩
  ·rw [ha, List.range_succ, List.map_append, hnx]; rfl
  ·show hh.nxt + 1 = _; lia
  ·by_cases hki : k = i
   ·subst hki; rw [← hnx]; exact get_new ..
   ·exact get_new_of kk.wf _ (ginn k (by lia))
 ·rintro acc hh ⟨rfl, hnx, kk, gs, ginn⟩
  rw [List.length_map] at hnx ginn ⊢
  refine ⟨_, heF .self _ rfl, q_put (get_new_of kk.wf _ gs) rfl ?_⟩
  have kb : Ke (fun l => l = s) h (hh.new (.list ((List.range names.length).map fun k => V.loc (h.nxt + k)))) := kk.new _
  refine q_setAttr ?_
  dsimp only [EA,EB,EC,ED,EE,EF,EG,EH,EI,EJ,EK,EL,EM,EN,EO,EP,EQ,ER,ES,ET,EU,EV,EW,EX,EY,EZ,Ea,Eb,Ec,UA,UB]
  refine ⟨by simp, _, heF .self _ rfl, q_put (get_new_of (Ke.set kb _ (.inr rfl) (Nat.lt_of_lt_of_le hs kb.le)).wf _ (get_set ..)) rfl ?_⟩
  have kc := Ke.new (Ke.set kb (.inst .grammar fun g => if g = .by_left then some (.loc hh.nxt) else fs6 g) (.inr rfl) (Nat.lt_of_lt_of_le hs kb.le)) (.list [])
  refine q_setAttr ?_
  dsimp only [EA,EB,EC,ED,EE,EF,EG,EH,EI,EJ,EK,EL,EM,EN,EO,EP,EQ,ER,ES,ET,EU,EV,EW,EX,EY,EZ,Ea,Eb,Ec,UA,UB]
  have kd := Ke.set kc (.inst .grammar fun g => if g = .offsets then some (.loc (hh.nxt + 1)) else if g = .by_left then some (.loc hh.nxt) else fs6 g) (.inr rfl) (Nat.lt_of_lt_of_le hs kc.le)
  have ke := Ke.new kd (.list [])
  refine ⟨by simp, _, heF .self _ rfl, q_put (get_new_of kd.wf _ (get_set ..)) rfl ?_⟩
  have kf := Ke.set ke (.inst .grammar fun g => if g = .owners then some (.loc (hh.nxt + 2)) else if g = .offsets then some (.loc (hh.nxt + 1)) else if g = .by_left then some (.loc hh.nxt) else fs6 g) (.inr rfl) (Nat.lt_of_lt_of_le hs ke.le)
  have hsn : s < hh.nxt := by lia
  have S : GiH h ((((((hh.new (.list ((List.range names.length).map fun k => V.loc (h.nxt + k)))).set s (.inst .grammar fun g => if g = .by_left then some (.loc hh.nxt) else fs6 g)).new (.list [])).set s (.inst .grammar fun g => if g = .offsets then some (.loc (hh.nxt + 1)) else if g = .by_left then some (.loc hh.nxt) else fs6 g)).new (.list [])).set s (.inst .grammar fun g => if g = .owners then some (.loc (hh.nxt + 2)) else if g = .offsets then some (.loc (hh.nxt + 1)) else if g = .by_left then some (.loc hh.nxt) else fs6 g)) s h.nxt names.length (fun g => if g = .owners then some (.loc (hh.nxt + 2)) else if g = .offsets then some (.loc (hh.nxt + 1)) else if g = .by_left then some (.loc hh.nxt) else fs6 g) (rs.take 0) := by
   refine ⟨w, Nat.le_refl _, hs, kf, ?_, get_set .., ?_, fun k hk => ?_, ?_, ?_⟩
   ·show h.nxt + names.length + 3 ≤ hh.nxt + 1 + 1 + 1; lia
   ·rw [get_set_ne _ _ (by lia)]
    refine get_new_of kd.wf _ ?_
    rw [get_set_ne _ _ (by lia)]
    refine get_new_of (Ke.set kb _ (.inr rfl) (Nat.lt_of_lt_of_le hs kb.le)).wf _ ?_
    rw [get_set_ne _ _ (by lia), ← hnx]
    exact get_new ..
   ·rw [get_set_ne _ _ (by lia)]
    refine get_new_of kd.wf _ ?_
    rw [get_set_ne _ _ (by lia)]
    refine get_new_of (Ke.set kb _ (.inr rfl) (Nat.lt_of_lt_of_le hs kb.le)).wf _ ?_
    rw [get_set_ne _ _ (by lia)]
    exact get_new_of kk.wf _ (ginn k hk)
   ·rw [get_set_ne _ _ (by lia)]
    refine get_new_of kd.wf _ ?_
    rw [get_set_ne _ _ (by lia), ← hnx]
    exact get_new ..
   ·rw [get_set_ne _ _ (by lia), ← hnx]
    exact get_new ..
  have hf1 : ∀ g, g ≠ .owners → g ≠ .offsets → g ≠ .by_left → (fun g => if g = .owners then some (V.loc (hh.nxt + 2)) else if g = .offsets then some (.loc (hh.nxt + 1)) else if g = .by_left then some (.loc hh.nxt) else fs6 g) g = fs6 g := fun g x1 x2 x3 => by
   show (if g = .owners then _ else _) = _
   rw [if_neg x1, if_neg x2, if_neg x3]
  have b1 := (hf1 .names (by decide) (by decide) (by decide)).trans a1
  have b2 := (hf1 .terminal_count (by decide) (by decide) (by decide)).trans a2
  have b3 := (hf1 .rules (by decide) (by decide) (by decide)).trans a3
  have b4 := (hf1 .number (by decide) (by decide) (by decide)).trans a4
  have b5 : (fun g => if g = .owners then some (V.loc (hh.nxt + 2)) else if g = .offsets then some (.loc (hh.nxt + 1)) else if g = .by_left then some (.loc hh.nxt) else fs6 g) .owners = some (.loc (h.nxt + names.length + 2)) := by rw [← hnx]; rfl
  have b6 : (fun g => if g = .owners then some (V.loc (hh.nxt + 2)) else if g = .offsets then some (.loc (hh.nxt + 1)) else if g = .by_left then some (.loc hh.nxt) else fs6 g) .offsets = some (.loc (h.nxt + names.length + 1)) := by rw [← hnx]; rfl
  have b7 : (fun g => if g = .owners then some (V.loc (hh.nxt + 2)) else if g = .offsets then some (.loc (hh.nxt + 1)) else if g = .by_left then some (.loc hh.nxt) else fs6 g) .by_left = some (.loc (h.nxt + names.length)) := by rw [← hnx]; rfl
  refine gi_tail G0 S b1 b2 b3 b4 b5 b6 b7 heF q
end
end Mine
end
section
namespace Mine
noncomputable def addT (L acc : List Nm) (x : Nm) : List Nm := if x ∈ L ∨ x ∈ acc then acc else acc ++ [x]
noncomputable def leftsF (ps : List Pr) (acc : List Nm) : List Nm := ps.foldl (fun acc p => addT [] acc p.1) acc
noncomputable def leftsOf (ps : List Pr) : List Nm := leftsF ps []
noncomputable def termsF (L : List Nm) (ps : List Pr) (acc : List Nm) : List Nm := ps.foldl (fun acc p => p.2.foldl (addT L) acc) acc
noncomputable def own3 : List Nm := [.dend, .err, .undef]
noncomputable def termsOf (ps : List Pr) : List Nm := termsF (leftsOf ps) ps own3
noncomputable def namesOf (ps : List Pr) : List Nm := (termsOf ps ++ [.accept]) ++ leftsOf ps
noncomputable def sg (ps : List Pr) (x : Nm) : Nat := (namesOf ps).idxOf x
noncomputable def rulesN (ps : List Pr) (qs : List Pr) : List Rl := qs.map fun p => (sg ps p.1, p.2.map (sg ps))
theorem mem_addT {L acc : List Nm} {x y : Nm} : y ∈ addT L acc x ↔ y ∈ acc ∨ (y = x ∧ x ∉ L) := by
 unfold addT
 by_cases h : x ∈ L ∨ x ∈ acc
 ·rw [if_pos h]
  constructor
  ·exact .inl
  ·rintro (z | ⟨rfl, z⟩)
   ·exact z
   ·exact h.resolve_left z
 ·rw [if_neg h, List.mem_append, List.mem_singleton]
  constructor
  ·rintro (z | z)
   ·exact .inl z
   ·exact .inr ⟨z, fun q => h (.inl q)⟩
  ·rintro (z | ⟨z, _⟩)
   ·exact .inl z
   ·exact .inr z
theorem nodup_addT {L acc : List Nm} {x : Nm} (h : acc.Nodup) : (addT L acc x).Nodup := by
 unfold addT
 split
 ·exact h
 ·rename_i hx
  rw [List.nodup_append]
  exact ⟨h, by simp, fun a ha b hb => by simp at hb; subst hb; exact fun q => hx (.inr (q ▸ ha))⟩
theorem pre_addT {L acc : List Nm} {x : Nm} : ∃ r, addT L acc x = acc ++ r := by
 unfold addT; split
 ·exact ⟨[], by simp⟩
 ·exact ⟨[x], rfl⟩
theorem mem_foldT {L : List Nm} {y : Nm} : ∀ {xs acc : List Nm}, y ∈ xs.foldl (addT L) acc ↔ y ∈ acc ∨ (y ∈ xs ∧ y ∉ L)
 | [], acc => by simp
 | x :: xs, acc => by
  rw [List.foldl_cons, mem_foldT, mem_addT, List.mem_cons]
  constructor
  ·rintro ((h | ⟨rfl, h⟩) | ⟨h1, h2⟩)
   ·exact .inl h
   ·exact .inr ⟨.inl rfl, h⟩
   ·exact .inr ⟨.inr h1, h2⟩
  ·rintro (h | ⟨rfl | h1, h2⟩)
   ·exact .inl (.inl h)
   ·exact .inl (.inr ⟨rfl, h2⟩)
   ·exact .inr ⟨h1, h2⟩
theorem nodup_foldT {L : List Nm} : ∀ {xs acc : List Nm}, acc.Nodup → (xs.foldl (addT L) acc).Nodup
 | [], _, h => h
 | x :: xs, _, h => nodup_foldT (xs := xs) (nodup_addT h)
theorem pre_foldT {L : List Nm} : ∀ {xs acc : List Nm}, ∃ r, xs.foldl (addT L) acc = acc ++ r
 | [], acc => ⟨[], by simp⟩
 | x :: xs, acc => by
  obtain ⟨r, h⟩ := pre_addT (L := L) (acc := acc) (x := x)
  obtain ⟨r', h'⟩ := pre_foldT (L := L) (xs := xs) (acc := addT L acc x)
  exact ⟨r ++ r', by rw [List.foldl_cons, h', h, List.append_assoc]⟩
theorem mem_termsF {L : List Nm} {y : Nm} : ∀ {ps : List Pr} {acc : List Nm}, y ∈ termsF L ps acc ↔ y ∈ acc ∨ ((∃ p ∈ ps, y ∈ p.2) ∧ y ∉ L)
 | [], acc => by simp [termsF]
 | p :: ps, acc => by
  show y ∈ termsF L ps (p.2.foldl (addT L) acc) ↔ _
  rw [mem_termsF, mem_foldT]
  simp only [List.mem_cons, exists_eq_or_imp]
  constructor
  ·rintro ((h | ⟨h1, h2⟩) | ⟨h1, h2⟩)
   ·exact .inl h
   ·exact .inr ⟨.inl h1, h2⟩
   ·exact .inr ⟨.inr h1, h2⟩
  ·rintro (h | ⟨h1 | h1, h2⟩)
   ·exact .inl (.inl h)
   ·exact .inl (.inr ⟨h1, h2⟩)
   ·exact .inr ⟨h1, h2⟩
theorem nodup_termsF {L : List Nm} : ∀ {ps : List Pr} {acc : List Nm}, acc.Nodup → (termsF L ps acc).Nodup
 | [], _, h => h
 | p :: ps, _, h => nodup_termsF (ps := ps) (nodup_foldT h)
theorem pre_termsF {L : List Nm} : ∀ {ps : List Pr} {acc : List Nm}, ∃ r, termsF L ps acc = acc ++ r
 | [], acc => ⟨[], by simp [termsF]⟩
 | p :: ps, acc => by
  obtain ⟨r, h⟩ := pre_foldT (L := L) (xs := p.2) (acc := acc)
  obtain ⟨r', h'⟩ := pre_termsF (L := L) (ps := ps) (acc := p.2.foldl (addT L) acc)
  exact ⟨r ++ r', by show termsF L ps (p.2.foldl (addT L) acc) = _; rw [h', h, List.append_assoc]⟩
theorem mem_leftsF {y : Nm} : ∀ {ps : List Pr} {acc : List Nm}, y ∈ leftsF ps acc ↔ y ∈ acc ∨ ∃ p ∈ ps, p.1 = y
 | [], acc => by simp [leftsF]
 | p :: ps, acc => by
  show y ∈ leftsF ps (addT [] acc p.1) ↔ _
  rw [mem_leftsF, mem_addT]
  simp only [List.mem_cons, exists_eq_or_imp, List.not_mem_nil, not_false_eq_true, and_true, or_assoc]
  constructor
  ·rintro (h | h | h)
   ·exact .inl h
   ·exact .inr (.inl h.symm)
   ·exact .inr (.inr h)
  ·rintro (h | h | h)
   ·exact .inl h
   ·exact .inr (.inl h.symm)
   ·exact .inr (.inr h)
theorem nodup_leftsF : ∀ {ps : List Pr} {acc : List Nm}, acc.Nodup → (leftsF ps acc).Nodup
 | [], _, h => h
 | p :: ps, _, h => nodup_leftsF (ps := ps) (nodup_addT h)
theorem pre_leftsF : ∀ {ps : List Pr} {acc : List Nm}, ∃ r, leftsF ps acc = acc ++ r
 | [], acc => ⟨[], by simp [leftsF]⟩
 | p :: ps, acc => by
  obtain ⟨r, h⟩ := pre_addT (L := []) (acc := acc) (x := p.1)
  obtain ⟨r', h'⟩ := pre_leftsF (ps := ps) (acc := addT [] acc p.1)
  exact ⟨r ++ r', by show leftsF ps (addT [] acc p.1) = _; rw [h', h, List.append_assoc]⟩
noncomputable def NT3 (x : Nm) : Prop := x = .S ∨ x = .T ∨ x = .U
noncomputable def Let3 (x : Nm) : Prop := x = .a ∨ x = .b ∨ x = .c
structure Drawn (ps : List Pr) : Prop where
 left : ∀ p ∈ ps, NT3 p.1
 part : ∀ p ∈ ps, ∀ x ∈ p.2, Let3 x ∨ x ∈ ps.map (·.1)
 len : ps.length ≤ 12
 plen : ∀ p ∈ ps, p.2.length ≤ 8
 head : ∃ qs rs, ps = (Nm.S, qs) :: rs
section
variable {ps : List Pr} (D : Drawn ps)
theorem mem_leftsOf {ps : List Pr} {x : Nm} : x ∈ leftsOf ps ↔ x ∈ ps.map (·.1) := by
 unfold leftsOf; rw [mem_leftsF]; simp
include D in
theorem lefts_nt {x : Nm} (h : x ∈ leftsOf ps) : NT3 x := by
 rw [mem_leftsOf] at h
 obtain ⟨p, hp, rfl⟩ := List.mem_map.mp h
 exact D.left p hp
theorem mem_termsOf {ps : List Pr} {x : Nm} : x ∈ termsOf ps ↔ x ∈ own3 ∨ ((∃ p ∈ ps, x ∈ p.2) ∧ x ∉ ps.map (·.1)) := by
 unfold termsOf; rw [mem_termsF, mem_leftsOf]
include D in
theorem term_kind {x : Nm} (h : x ∈ termsOf ps) : x ∈ own3 ∨ Let3 x := by
 rcases mem_termsOf.mp h with q | ⟨⟨p, hp, hx⟩, hn⟩
 ·exact .inl q
 ·rcases D.part p hp x hx with q | q
  ·exact .inr q
  ·exact absurd q hn
include D in
theorem names_nodup : (namesOf ps).Nodup := by
 unfold namesOf
 have h1 : (termsOf ps).Nodup := nodup_termsF (by decide)
 have h2 : (leftsOf ps).Nodup := nodup_leftsF List.nodup_nil
 have hta : Nm.accept ∉ termsOf ps := fun h => by
  rcases term_kind D h with q | q
  ·exact absurd q (by decide)
  ·unfold Let3 at q; simp at q
 rw [List.nodup_append]
 refine ⟨?_, h2, fun a ha b hb => ?_⟩
 ·rw [List.nodup_append]
  exact ⟨h1, by simp, fun a ha b hb => by simp at hb; subst hb; exact fun q => hta (q ▸ ha)⟩
 ·intro q; subst q
  have hn := lefts_nt D hb
  rcases List.mem_append.mp ha with ha | ha
  ·rcases term_kind D ha with q | q
   ·unfold NT3 at hn; rcases hn with rfl | rfl | rfl <;> exact absurd q (by decide)
   ·unfold NT3 at hn; unfold Let3 at q; rcases hn with rfl | rfl | rfl <;> simp at q
  ·simp at ha; subst ha; unfold NT3 at hn; simp at hn
include D in
theorem names_len : (namesOf ps).length ≤ 12 := List.Nodup.length_le_of_subset (names_nodup D) fun x _ => mem_allNm x
theorem sg_term {ps : List Pr} {x : Nm} (h : x ∈ termsOf ps) : sg ps x < (termsOf ps).length := by
 unfold sg namesOf
 rw [List.idxOf_append, if_pos (List.mem_append_left _ h), List.idxOf_append, if_pos h]
 exact List.idxOf_lt_length_of_mem h
include D in
theorem sg_accept : sg ps .accept = (termsOf ps).length := by
 unfold sg namesOf
 have hta : Nm.accept ∉ termsOf ps := fun h => by
  rcases term_kind D h with q | q
  ·exact absurd q (by decide)
  ·unfold Let3 at q; simp at q
 rw [List.idxOf_append, if_pos (by simp), List.idxOf_append, if_neg hta]
 simp
include D in
theorem sg_left {x : Nm} (h : x ∈ ps.map (·.1)) : (termsOf ps).length ≤ sg ps x ∧ sg ps x < (namesOf ps).length := by
 have hl := mem_leftsOf.mpr h
 have hn := lefts_nt D hl
 have h1 : x ∉ termsOf ps ++ [.accept] := fun q => by
  rcases List.mem_append.mp q with q | q
  ·rcases term_kind D q with q | q
   ·unfold NT3 at hn; rcases hn with rfl | rfl | rfl <;> exact absurd q (by decide)
   ·unfold NT3 at hn; unfold Let3 at q; rcases hn with rfl | rfl | rfl <;> simp at q
  ·simp at q; subst q; unfold NT3 at hn; simp at hn
 refine ⟨?_, List.idxOf_lt_length_of_mem (by unfold namesOf; exact List.mem_append_right _ hl)⟩
 unfold sg namesOf
 rw [List.idxOf_append, if_neg h1, List.length_append]
 lia
theorem sg_dend (ps : List Pr) : sg ps .dend = 0 := by
 unfold sg namesOf termsOf
 obtain ⟨r, h⟩ := pre_termsF (L := leftsOf ps) (ps := ps) (acc := own3)
 rw [h]
 rfl
theorem part_name {ps : List Pr} {p : Pr} (hp : p ∈ ps) {x : Nm} (hx : x ∈ p.2) : x ∈ namesOf ps := by
 unfold namesOf
 by_cases h : x ∈ ps.map (·.1)
 ·exact List.mem_append_right _ (mem_leftsOf.mpr h)
 ·exact List.mem_append_left _ (List.mem_append_left _ (mem_termsOf.mpr (.inr ⟨⟨p, hp, hx⟩, h⟩)))
theorem left_name {ps : List Pr} {p : Pr} (hp : p ∈ ps) : p.1 ∈ namesOf ps := List.mem_append_right _ (mem_leftsOf.mpr (List.mem_map_of_mem hp))
theorem sg_inj {ps : List Pr} {x y : Nm} (hx : x ∈ namesOf ps) (hy : y ∈ namesOf ps) (h : sg ps x = sg ps y) : x = y := by
 unfold sg at h
 have h1 := List.getElem_idxOf (List.idxOf_lt_length_of_mem hx)
 have h2 := List.getElem_idxOf (List.idxOf_lt_length_of_mem hy)
 rw [← h1, ← h2]
 congr 1
end
end Mine
end
section
namespace Mine
section
variable {h : MH} {n : Nat} {C : CS}
theorem q_append {e : Env} {o a : E} {Q : V → MH → Prop} (q : wE C o e h fun vo h1 => (∃ l vs, vo = .loc l ∧ h1.get l = some (.list vs)) ∧ wE C a e h1 fun va h2 => appendop vo va h2 Q) : wE C (.append o a) e h Q := by dsimp only [EA,EB,EC,ED,EE,EF,EG,EH,EI,EJ,EK,EL,EM,EN,EO,EP,EQ,ER,ES,ET,EU,EV,EW,EX,EY,EZ,Ea,Eb,Ec]; exact q
theorem sc_expr {e : Env} {a : E} {ss : Ss} {Q : Fl → Env → MH → Prop} (q : wE C a e h fun v h1 => v = .none ∧ wSs C ss e h1 Q) : wSs C (.cons (.expr a) ss) e h Q := by dsimp only [UF,UG,YA,YB,YC,YD,YE,YF,YG,YH,YI,YJ,YK,YL]; exact q
theorem leftsF_snoc (ps : List Pr) (j : Nat) (p : Pr) (hp : ps[j]? = some p) : leftsF (ps.take (j + 1)) [] = addT [] (leftsF (ps.take j) []) p.1 := by
 unfold leftsF; rw [List.take_add_one, hp, List.foldl_append]; rfl
theorem termsF_snoc (L : List Nm) (ps : List Pr) (j : Nat) (p : Pr) (hp : ps[j]? = some p) : termsF L (ps.take (j + 1)) own3 = p.2.foldl (addT L) (termsF L (ps.take j) own3) := by
 unfold termsF; rw [List.take_add_one, hp, List.foldl_append]; rfl
theorem nm_len {X : List Nm} (h : X.Nodup) : X.length ≤ 12 := List.Nodup.length_le_of_subset h fun x _ => mem_allNm x
structure PgH (h0 h : MH) (lf : Nat) (X : List Nm) : Prop where
 w0 : Wf h0
 kp : Kp h0 h
 new : h0.nxt ≤ lf
 lt : lf < h.nxt
 hx : h.get lf = some (.list (vStrs X))
theorem PgH.put {h0 h : MH} {lf : Nat} {X : List Nm} (S : PgH h0 h lf X) (Y : List Nm) : PgH h0 (h.set lf (.list (vStrs Y))) lf Y :=
 ⟨S.w0, S.kp.set _ (.inl (S.w0 _ S.new)) S.lt, S.new, S.lt, get_set ..⟩
theorem pg_add {h0 : MH} {lf : Nat} {X L : List Nm} {e : Env} {xv lv : Vr} {x : Nm} {t : T} {ss : Ss} {Q : Fl → Env → MH → Prop} (S : PgH h0 h lf X) (hX : X.Nodup) (hl : e lv = some (.loc lf)) (hx : e xv = some (.str x))
  (ht : ∀ P : Bool → MH → Prop, P (!decide (x ∈ L ∨ x ∈ X)) h → wT C t e h P)
  (q : ∀ h', PgH h0 h' lf (addT L X x) → (∀ l, l ≠ lf → h'.get l = h.get l) → wSs C ss e h' Q) : wSs C (.cons (.ite t (.cons (.expr (.append (.var lv) (.var xv))) .nil) .nil) ss) e h Q := by
 refine sc_if (!decide (x ∈ L ∨ x ∈ X)) ht ?_
 by_cases hm : x ∈ L ∨ x ∈ X
 ·rw [if_neg (by rw [decide_eq_true hm]; simp)]
  dsimp only [UF,UG]
  have : addT L X x = X := if_pos hm
  exact q h (by rw [this]; exact S) fun _ _ => rfl
 ·rw [if_pos (by rw [decide_eq_false hm]; rfl)]
  have hadd : addT L X x = X ++ [x] := if_neg hm
  refine sc_expr (q_append (r_var hl ⟨⟨_, _, rfl, S.hx⟩, r_var hx ⟨lf, _, ⟨rfl, S.hx, by rw [vStrs_length]; have := nm_len hX; simp only [room]; lia⟩, rfl, ?_⟩⟩))
  dsimp only [UF,UG]
  have S2 := S.put (X ++ [x])
  have ev : vStrs X ++ [V.str x] = vStrs (X ++ [x]) := by simp [vStrs]
  rw [ev]
  exact q _ (by rw [hadd]; exact S2) fun l hl => get_set_ne _ _ hl
noncomputable def pgF (l lf : Nat) : Env := upd (upd (upd env0 .start .none) .lefts (.loc lf)) .pairs (.loc l)
noncomputable def pgF2 (l lf nm : Nat) : Env := upd (upd (upd env0 .names (.loc nm)) .lefts (.loc lf)) .pairs (.loc l)
noncomputable def pgF3 (l nm nt rl : Nat) : Env := upd (upd (upd (upd (upd env0 .begin (.str .S)) .rules (.loc rl)) .count (.int (nt : Int))) .names (.loc nm)) .pairs (.loc l)
theorem q_index {e : Env} {o a : E} {l : Nat} {ns : List Nm} {x : Nm} {Q : V → MH → Prop} (ho : ∀ P : V → MH → Prop, P (.loc l) h → wE C o e h P) (ha : ∀ P : V → MH → Prop, P (.str x) h → wE C a e h P) (hg : h.get l = some (.list (vStrs ns))) (hx : x ∈ ns) (hl : ns.length ≤ 1000)
  (q : Q (.int ((ns.idxOf x : Nat) : Int)) h) : wE C (.index o a) e h Q := by
 dsimp only [EA,EB,EC,ED,EE,EF,EG,EH,EI,EJ,EK,EL,EM,EN,EO,EP,EQ,ER,ES,ET,EU,EV,EW,EX,EY,EZ,Ea,Eb,Ec]
 exact ho _ ⟨⟨_, _, rfl, hg⟩, ha _ ⟨l, ns, x, ⟨rfl, rfl, hg, hx, hl⟩, q⟩⟩
structure RuH (h0 h : MH) (rl : Nat) (ls : List Nat) (rs : List Rl) : Prop where
 w0 : Wf h0
 kp : Kp h0 h
 new : h0.nxt ≤ rl
 lt : rl < h.nxt
 len : ls.length = rs.length
 hr : h.get rl = some (.list (ls.map V.loc))
 rat : ∀ (i : Nat) r l, rs[i]? = some r → ls[i]? = some l → RAt h l i r
theorem RuH.step {h0 h h' : MH} {rl : Nat} {ls : List Nat} {rs : List Rl} (S : RuH h0 h rl ls rs) (k : Kp h h') {l : Nat} {r : Rl} (hr : RAt h' l rs.length r) : RuH h0 (h'.set rl (.list ((ls ++ [l]).map V.loc))) rl (ls ++ [l]) (rs ++ [r]) := by
 have hne : ∀ {m : Nat} {o : MO}, h'.get m = some o → (∀ xs, o ≠ .list xs) → m ≠ rl := fun {m o} e z q => by
  subst q; rw [k.get S.hr] at e; cases e; exact z _ rfl
 refine ⟨S.w0, (S.kp.trans k).set _ (.inl (S.w0 _ S.new)) (Nat.lt_of_lt_of_le S.lt k.le), S.new, Nat.lt_of_lt_of_le S.lt k.le, by simp [S.len], get_set .., fun i r' l' h1 h2 => ?_⟩
 by_cases hi : i < rs.length
 ·rw [List.getElem?_append_left hi] at h1
  rw [List.getElem?_append_left (by rw [S.len]; exact hi)] at h2
  obtain ⟨fs, q1, q2⟩ := S.rat i r' l' h1 h2
  exact ⟨fs, by rw [get_set_ne _ _ (hne (k.get q1) fun xs z => by cases z)]; exact k.get q1, q2⟩
 ·have hl := lt_of_get h1
  rw [List.length_append, List.length_singleton] at hl
  have : i = rs.length := by lia
  subst this
  rw [List.getElem?_append_right (Nat.le_refl _), Nat.sub_self] at h1
  rw [← S.len, List.getElem?_append_right (Nat.le_refl _), Nat.sub_self] at h2
  cases h1; cases h2
  obtain ⟨fs, q1, q2⟩ := hr
  exact ⟨fs, by rw [get_set_ne _ _ (hne q1 fun xs z => by cases z)]; exact q1, q2⟩
noncomputable def LNew (b : Nat) (L : Loc) : Prop := b ≤ L.ln ∧ b ≤ L.lr ∧ b ≤ L.lb ∧ b ≤ L.lo ∧ b ≤ L.lw ∧ ∀ x ∈ L.bl, b ≤ x
theorem pg_tail {h0 : MH} {l lf nm : Nat} {ps : List Pr} {ks : List Nat} {e : Env} {Q : V → MH → Prop} (P : PAt h0 l ps ks) (D : Drawn ps) (S : PgH h0 h nm (termsOf ps)) (hL : h0.get lf = some (.list (vStrs (leftsOf ps)))) (hSm : Nm.S ∈ leftsOf ps)
  (he : SubE (pgF2 l lf nm) e) (hbe : e .begin = some (.str .S))
  (q : ∀ h' g L, Kp h0 h' → GAt h' g L (namesOf ps) (termsOf ps).length (rulesN ps ((.accept, [.S, .dend]) :: ps)) → LNew h0.nxt L → Q (.loc g) h') :
  wSs (CL prog (n + 1)) (.cons (.assign .count (.b1 .len (.var .names))) (.cons (.assign .names (.bin .add (.bin .add (.var .names) (.list (.cons (.str .accept) .nil))) (.var .lefts)))
   (.cons (.assign .rules (.list (.cons (.mk .rule (.cons (.int 0) (.cons (.var .count) (.cons (.tup (.cons (.index (.var .names) (.var .begin)) (.cons .gEnd .nil))) (.cons .gEnd .nil))))) .nil)))
   (.cons (.for_ [.left, .parts] (.seq (.var .pairs)) (.cons (.assign .right (.b1 .tuple (.comp (.index (.var .names) (.var .name)) [.name] (.seq (.var .parts)) .tt))) (.cons (.expr (.append (.var .rules) (.mk .rule (.cons (.b1 .len (.var .rules)) (.cons (.index (.var .names) (.var .left)) (.cons (.var .right) (.cons (.call .last_terminal (.cons (.var .right) (.cons (.var .count) .nil))) .nil))))))) .nil)))
   (.cons (.ret (.mk .grammar (.cons (.var .names) (.cons (.var .count) (.cons (.var .rules) (.cons .dict0 (.cons .none (.cons (.index (.var .names) (.var .begin)) .nil)))))))) .nil))))) e h (fun fl _ h' => match fl with | .ret v => Q v h' | .next => Q V.none h' | .cont => False) := by
 have hTn : (termsOf ps).Nodup := nodup_termsF (by decide)
 have hT12 := nm_len hTn
 have hL12 := nm_len (nodup_leftsF (ps := ps) List.nodup_nil)
 change (leftsOf ps).length ≤ 12 at hL12
 have hN12 := names_len D
 have hlen := D.len
 refine sc_assign ?_
 refine q_b1 (r_var (he .names _ rfl) (r_lenL S.hx (by rw [vStrs_length]; simp only [room]; lia) ?_))
 rw [vStrs_length]
 refine sc_assign ?_
 refine q_bin ?_
 refine q_bin ?_
 refine r_var (v := .loc nm) (he .names _ rfl) ?_
 dsimp only [EA,EB,EC,ED,EE,EF,EG,EH,EI,EJ,EK,EL,EM,EN,EO,EP,EQ,ER,ES,ET,EU,EV,EW,EX,EY,EZ,Ea,Eb,Ec,UA,UB]
 refine ⟨by simp, ?_⟩
 have k1 : Kp h0 (h.new (.list [V.str .accept])) := S.kp.new _
 refine ⟨vStrs (termsOf ps), [V.str .accept], ⟨get_new_of S.kp.wf _ S.hx, get_new .., by rw [vStrs_length]; simp only [room, List.length_cons, List.length_nil]; lia⟩, ?_⟩
 have k2 : Kp h0 ((h.new (.list [V.str .accept])).new (.list (vStrs (termsOf ps) ++ [V.str .accept]))) := k1.new _
 refine ⟨_, he .lefts _ rfl, vStrs (termsOf ps) ++ [V.str .accept], vStrs (leftsOf ps), ⟨get_new .., k2.get hL, by rw [List.length_append, vStrs_length, vStrs_length]; simp only [room, List.length_cons, List.length_nil]; lia⟩, ?_⟩
 have en : (vStrs (termsOf ps) ++ [V.str .accept]) ++ vStrs (leftsOf ps) = vStrs (namesOf ps) := by simp [vStrs, namesOf]
 rw [en]
 have k3 : Kp h0 (((h.new (.list [V.str .accept])).new (.list (vStrs (termsOf ps) ++ [V.str .accept]))).new (.list (vStrs (namesOf ps)))) := k2.new _
 have g3 : (((h.new (.list [V.str .accept])).new (.list (vStrs (termsOf ps) ++ [V.str .accept]))).new (.list (vStrs (namesOf ps)))).get ((h.new (.list [V.str .accept])).new (.list (vStrs (termsOf ps) ++ [V.str .accept]))).nxt = some (.list (vStrs (namesOf ps))) := get_new ..
 generalize (((h.new (.list [V.str .accept])).new (.list (vStrs (termsOf ps) ++ [V.str .accept]))).new (.list (vStrs (namesOf ps)))) = h3 at k3 g3
 have hn3 : h0.nxt ≤ ((h.new (.list [V.str .accept])).new (.list (vStrs (termsOf ps) ++ [V.str .accept]))).nxt := k2.le
 generalize ((h.new (.list [V.str .accept])).new (.list (vStrs (termsOf ps) ++ [V.str .accept]))).nxt = n3 at g3 hn3 ⊢
 clear k2 k1
 have hSn : Nm.S ∈ namesOf ps := List.mem_append_right _ hSm
 have hpl : e .pairs = some (.loc l) := he .pairs _ rfl
 refine sc_assign ?_
 dsimp only [EA,EB,EC,ED,EE,EF,EG,EH,EI,EJ,EK,EL,EM,EN,EO,EP,EQ,ER,ES,ET,EU,EV,EW,EX,EY,EZ,Ea,Eb,Ec,UA,UB]
 have hiS : ∀ (e' : Env) (h' : MH) (R : V → MH → Prop), e' .names = some (.loc n3) → e' .begin = some (.str .S) → h'.get n3 = some (.list (vStrs (namesOf ps))) → R (.int ((sg ps .S : Nat) : Int)) h' → wE (CL prog (n + 1)) (.index (.var .names) (.var .begin)) e' h' R := fun e' h' R a1 a2 a3 r =>
  q_index (fun P0 p0 => r_var a1 p0) (fun P0 p0 => r_var a2 p0) a3 hSn (by lia) r
 have hiS0 := hiS (upd (upd e .count (.int ((termsOf ps).length : Int))) .names (.loc n3)) h3
 simp only [EA,EB,EC,ED,EE,EF,EG,EH,EI,EJ,EK,EL,EM,EN,EO,EP,EQ,ER,ES,ET,EU,EV,EW,EX,EY,EZ,Ea,Eb,Ec] at hiS0
 refine ⟨_, rfl, hiS0 _ rfl hbe g3 ⟨[.int ((sg ps .S : Nat) : Int), .int 0], ⟨rfl, by simp⟩, ?_⟩⟩
 refine sp_ruleInit (k3.wf.new _) (get_new ..) fun h4 fs k a1 a2 a3 a4 => ⟨rfl, by simp, ?_⟩
 have k4 := Ke.fresh k3.wf k
 have hR0 : RAt h4 h3.nxt 0 (sg ps .accept, [sg ps .S, sg ps .dend]) := ⟨fs, a1, a2, by rw [sg_accept D]; exact a3, by rw [sg_dend]; exact a4⟩
 have k5 : Kp h3 (h4.new (.list [V.loc h3.nxt])) := k4.new _
 have S5 : RuH h3 (h4.new (.list [V.loc h3.nxt])) h4.nxt [h3.nxt] (rulesN ps ((.accept, [.S, .dend]) :: ps.take 0)) := by
  refine ⟨k3.wf, k5, k4.le, Nat.lt_succ_self _, rfl, get_new .., fun i r l' h1 h2 => ?_⟩
  have hi := lt_of_get h1
  have : i = 0 := by simp [rulesN] at hi; lia
  subst this
  simp [rulesN] at h1 h2
  subst h1; subst h2
  obtain ⟨fs', b1, b2⟩ := hR0
  exact ⟨fs', get_new_of k4.wf _ b1, b2⟩
 generalize h4.nxt = rl at S5 ⊢
 generalize h4.new (.list [V.loc h3.nxt]) = h5 at S5
 have heF : SubE (pgF3 l n3 (termsOf ps).length rl) (upd (upd (upd e .count (.int ((termsOf ps).length : Int))) .names (.loc n3)) .rules (.loc rl)) := .cons (.cons (.cons (.cons (.cons .nil (by first | rfl | exact hpl | exact hbe)) (by first | rfl | exact hpl | exact hbe)) (by first | rfl | exact hpl | exact hbe)) (by first | rfl | exact hpl | exact hbe)) (by first | rfl | exact hpl | exact hbe)
 refine sc_for ?_
 dsimp only [UC,UD,UE,EA,EB,EC,ED,EE,EF,EG,EH,EI,EJ,EK,EL,EM,EN,EO,EP,EQ,ER,ES,ET,EU,EV,EW,EX,EY,EZ,Ea,Eb,Ec]
 refine ⟨_, heF .pairs _ rfl, ?_⟩
 have P3 := P.kp k3
 refine for_seq (vs := (ps.zip ks).map fun x => V.tup [.str x.1.1, .loc x.2]) (fun j e' h' => SubE (pgF3 l n3 (termsOf ps).length rl) e' ∧ ∃ ls, RuH h3 h' rl ls (rulesN ps ((.accept, [.S, .dend]) :: ps.take j))) ?_ ?_ ?_ ⟨heF, _, S5⟩
 ·rintro j e' h' ⟨_, ls, S'⟩
  simp only [items, (P3.kp S'.kp).at_]
 ·rintro j e' h' v hv ⟨he', ls, S'⟩
  obtain ⟨p, kk, hp, hkk, rfl, hpart⟩ := (P3.kp S'.kp).get hv
  have hpm := List.mem_of_getElem? hp
  have hp8 := D.plen p hpm
  refine ⟨_, rfl, fun K hK => ?_⟩
  have he2 := (he'.upd (y := .left) (w := .str p.1) rfl).upd (y := .parts) (w := .loc kk) rfl
  refine sc_assign ?_
  refine q_b1 ?_
  refine q_comp ?_
  refine q_seq ?_
  refine r_var (v := .loc kk) rfl ?_
  refine for_seq (vs := vStrs p.2) (fun i acc h2 => h2 = h' ∧ acc = ((p.2.take i).map (sg ps)).map fun s : Nat => V.int (s : Int)) ?_ ?_ ?_ ⟨rfl, rfl⟩
  ·rintro i acc h2 ⟨rfl, _⟩
   simp only [items, hpart]
  ·rintro i acc h2 v2 hv2 ⟨rfl, rfl⟩
   obtain ⟨x, hx, rfl⟩ : ∃ x, p.2[i]? = some x ∧ V.str x = v2 := map_at hv2
   refine ⟨_, rfl, fun K2 hK2 => ?_⟩
   simp only [JA,JB,JC,JD,JE,JF,JG,if_true]
   refine q_index (l := n3) (ns := namesOf ps) (x := x) (fun P0 p0 => r_var (he2 .names _ rfl) p0) (fun P0 p0 => r_var rfl p0) (S'.kp.get g3) (part_name hpm (List.mem_of_getElem? hx)) (by lia) ⟨by rw [List.length_map, List.length_map]; have := List.length_take_le' i p.2; simp only [room]; lia, hK2 _ _ ⟨rfl, ?_⟩⟩
   rw [List.take_add_one, hx]; simp [sg]
  ·rintro acc h2 ⟨rfl, rfl⟩
   rw [vStrs_length, List.take_length]
   refine ⟨_, _, (p.2.map (sg ps)).map fun s : Nat => W.int (s : Int), ⟨rfl, get_new .., by simp [List.map_map, Function.comp_def], by simp [room]; lia⟩, ?_⟩
   have k6 : Kp h2 (h2.new (.list (((p.2.map (sg ps)).map fun s : Nat => V.int (s : Int))))) := (Ke.refl S'.kp.wf).new _
   generalize h2.new (.list (((p.2.map (sg ps)).map fun s : Nat => V.int (s : Int)))) = h6 at k6
   have he3 := he2.upd (y := .right) (w := .tup ((p.2.map (sg ps)).map fun s : Nat => W.int (s : Int))) rfl
   refine sc_expr (q_append (r_var (v := .loc rl) (he3 .rules _ rfl) ⟨⟨_, _, rfl, k6.get S'.hr⟩, ?_⟩))
   dsimp only [EA,EB,EC,ED,EE,EF,EG,EH,EI,EJ,EK,EL,EM,EN,EO,EP,EQ,ER,ES,ET,EU,EV,EW,EX,EY,EZ,Ea,Eb,Ec,UA,UB]
   have hjl := lt_of_get hp
   have hlsl : ls.length = j + 1 := by rw [S'.len]; simp [rulesN]; lia
   refine ⟨_, he3 .rules _ rfl, r_lenL (k6.get S'.hr) (by rw [List.length_map, hlsl]; simp only [room]; lia) ?_⟩
   have gn6 : h6.get n3 = some (.list (vStrs (namesOf ps))) := k6.get (S'.kp.get g3)
   refine ⟨_, he3 .names _ rfl, ⟨_, _, rfl, gn6⟩, _, rfl, n3, namesOf ps, p.1, ⟨rfl, rfl, gn6, left_name hpm, by lia⟩, ?_⟩
   refine ⟨_, rfl, _, rfl, _, he3 .count _ rfl, sp_last_terminal fun k => ?_⟩
   refine sp_ruleInit (k6.wf.new _) (get_new ..) fun h7 fs k7 a1 a2 a3 a4 => ⟨rfl, ?_⟩
   have k8 : Kp h2 h7 := k6.trans (Ke.fresh k6.wf k7)
   have hrn : (rulesN ps ((Nm.accept, [Nm.S, Nm.dend]) :: ps.take j)).length = j + 1 := by rw [← S'.len, hlsl]
   refine ⟨rl, _, ⟨rfl, k8.get S'.hr, by rw [List.length_map, hlsl]; simp only [room]; lia⟩, rfl, ?_⟩
   have S9 := S'.step k8 (l := h6.nxt) (r := (sg ps p.1, p.2.map (sg ps))) ⟨fs, a1, by rw [a2, List.length_map, hlsl, hrn], a3, a4⟩
   have er : rulesN ps ((Nm.accept, [Nm.S, Nm.dend]) :: ps.take (j + 1)) = rulesN ps ((Nm.accept, [Nm.S, Nm.dend]) :: ps.take j) ++ [(sg ps p.1, p.2.map (sg ps))] := by
    rw [List.take_add_one, hp]; simp [rulesN]
   dsimp only [UF,UG]
   refine hK _ _ ⟨he3, _, by rw [er]; rw [List.map_append] at S9; exact S9⟩
 ·rintro e' h' ⟨he', ls, S'⟩
  rw [P.zlen, List.take_length] at S'
  refine sc_ret ?_
  dsimp only [EA,EB,EC,ED,EE,EF,EG,EH,EI,EJ,EK,EL,EM,EN,EO,EP,EQ,ER,ES,ET,EU,EV,EW,EX,EY,EZ,Ea,Eb,Ec,UA,UB]
  have k7 : Kp h3 (h'.new (.dict [])) := S'.kp.new _
  have hiS1 := hiS e' (h'.new (.dict []))
  simp only [EA,EB,EC,ED,EE,EF,EG,EH,EI,EJ,EK,EL,EM,EN,EO,EP,EQ,ER,ES,ET,EU,EV,EW,EX,EY,EZ,Ea,Eb,Ec] at hiS1
  refine ⟨_, he' .names _ rfl, _, he' .count _ rfl, _, he' .rules _ rfl, hiS1 _ (he' .names _ rfl) (he' .begin _ rfl) (k7.get g3) ?_⟩
  have hk7 : h0.nxt ≤ ((h'.new (.dict [])).new (.inst .grammar fun _ => none)).nxt := Nat.le_trans (Nat.le_trans k3.le k7.le) (Nat.le_succ _)
  have hrl : (rulesN ps ((Nm.accept, [Nm.S, Nm.dend]) :: ps)).length ≤ 40 := by simp [rulesN]; lia
  have hnt : (termsOf ps).length ≤ (namesOf ps).length := by unfold namesOf; rw [List.length_append, List.length_append]; lia
  refine sp_grammarInit (k7.wf.new _) (get_new ..) (get_new_of k7.wf _ (k7.get g3)) (get_new_of k7.wf _ (get_new_of S'.kp.wf _ S'.hr)) S'.len (fun i r l' h1 h2 => ?_) hrl (by lia) (fun r hr => ?_) (fun r hr => ?_) hnt fun h8 L k8 G8 e1 e2 e3 => ⟨rfl, q h8 _ L ((k3.trans k7).trans (Ke.fresh k7.wf k8)) G8 ⟨by rw [e1]; exact hn3, by rw [e2]; exact Nat.le_trans k3.le S'.new, Nat.le_trans hk7 e3.1, Nat.le_trans hk7 e3.2.1, Nat.le_trans hk7 e3.2.2.1, fun x hx => Nat.le_trans hk7 (e3.2.2.2 x hx)⟩⟩
  ·obtain ⟨fs', b1, b2⟩ := S'.rat i r l' h1 h2
   exact ⟨fs', get_new_of k7.wf _ (get_new_of S'.kp.wf _ b1), b2⟩
  ·obtain ⟨p, hp, rfl⟩ := List.mem_map.mp hr
   rcases List.mem_cons.mp hp with rfl | hp
   ·rw [sg_accept D]
    refine ⟨?_, Nat.le_refl _⟩
    unfold namesOf; rw [List.length_append, List.length_append]; simp only [List.length_cons, List.length_nil]; lia
   ·have := sg_left D (List.mem_map_of_mem (f := (·.1)) hp)
    exact ⟨this.2, this.1⟩
  ·obtain ⟨p, hp, rfl⟩ := List.mem_map.mp hr
   rcases List.mem_cons.mp hp with rfl | hp
   ·refine ⟨by simp, fun s hs => ?_⟩
    simp only [List.map_cons, List.map_nil, List.mem_cons, List.not_mem_nil, or_false] at hs
    rcases hs with rfl | rfl
    ·exact List.idxOf_lt_length_of_mem hSn
    ·rw [sg_dend]; exact Nat.lt_of_lt_of_le (by rw [← sg_dend ps]; exact sg_term (mem_termsOf.mpr (.inl (by decide)))) hnt
   ·refine ⟨by rw [List.length_map]; exact D.plen p hp, fun s hs => ?_⟩
    obtain ⟨x, hx, rfl⟩ := List.mem_map.mp hs
    exact List.idxOf_lt_length_of_mem (part_name hp hx)
theorem sp_plain {l : Nat} {ps : List Pr} {ks : List Nat} {Q : V → MH → Prop} (w : Wf h) (P : PAt h l ps ks) (D : Drawn ps)
  (q : ∀ h' g L, Kp h h' → GAt h' g L (namesOf ps) (termsOf ps).length (rulesN ps ((.accept, [.S, .dend]) :: ps)) → LNew h.nxt L → Q (.loc g) h') : CL prog (n + 2) .plain_grammar [.loc l] h Q := by
 have hlen := D.len
 refine ⟨_, rfl, ?_⟩
 show wSs (CL prog (n + 1)) body_plain_grammar _ h _
 unfold body_plain_grammar
 refine sc_assign ?_
 dsimp only [EA,EB,EC,ED,EE,EF,EG,EH,EI,EJ,EK,EL,EM,EN,EO,EP,EQ,ER,ES,ET,EU,EV,EW,EX,EY,EZ,Ea,Eb,Ec,UA,UB]
 refine ⟨by simp, ?_⟩
 have S0 : PgH h (h.new (.list [])) h.nxt (leftsF (ps.take 0) []) := ⟨w, (Ke.refl w).new _, Nat.le_refl _, Nat.lt_succ_self _, get_new ..⟩
 generalize hlf : h.nxt = lf at S0 ⊢
 generalize h.new (.list []) = h1 at S0
 have heF : SubE (pgF l lf) (upd (upd (upd env0 .start .none) .pairs (.loc l)) .lefts (.loc lf)) := .cons (.cons (.cons .nil rfl) rfl) rfl
 refine sc_for ?_
 dsimp only [UC,UD,UE,EA,EB,EC,ED,EE,EF,EG,EH,EI,EJ,EK,EL,EM,EN,EO,EP,EQ,ER,ES,ET,EU,EV,EW,EX,EY,EZ,Ea,Eb,Ec]
 refine ⟨_, heF .pairs _ rfl, ?_⟩
 refine for_seq (vs := (ps.zip ks).map fun x => V.tup [.str x.1.1, .loc x.2]) (fun j e' h' => SubE (pgF l lf) e' ∧ PgH h h' lf (leftsF (ps.take j) [])) ?_ ?_ ?_ ⟨heF, S0⟩
 ·rintro j e' h' ⟨_, S⟩
  simp only [items, (P.kp S.kp).at_]
 ·rintro j e' h' v hv ⟨he, S⟩
  obtain ⟨p, kk, hp, hkk, rfl, hpart⟩ := (P.kp S.kp).get hv
  refine ⟨_, rfl, fun K hK => ?_⟩
  have hpm := List.mem_of_getElem? hp
  have he2 := (he.upd (y := .left) (w := .str p.1) rfl).upd (y := .parts) (w := .loc kk) rfl
  refine sc_if false (fun P0 q0 => ?_) ?_
  ·dsimp only [JA,JB,JC,JD,JE,JF,JG]
   exact ⟨⟨p.1, rfl, D.left p hpm⟩, q0⟩
  ·rw [if_neg (by simp)]
   show wSs _ (.cons _ _) _ _ _
   refine pg_add (L := []) (xv := .left) (lv := .lefts) (x := p.1) S (nodup_leftsF List.nodup_nil) (he2 .lefts _ rfl) rfl (fun P0 q0 => ?_) fun h2 S2 hs2 => ?_
   ·dsimp only [JA,JB,JC,JD,JE,JF,JG,EA,EB,EC,ED,EE,EF,EG,EH,EI,EJ,EK,EL,EM,EN,EO,EP,EQ,ER,ES,ET,EU,EV,EW,EX,EY,EZ,Ea,Eb,Ec]
    refine ⟨_, rfl, _, he2 .lefts _ rfl, _, _, ⟨S.hx, vin_strs _ _⟩, ?_⟩
    have : decide (p.1 ∈ ([] : List Nm) ∨ p.1 ∈ leftsF (ps.take j) []) = decide (p.1 ∈ leftsF (ps.take j) []) := decide_eq_decide.mpr (by simp)
    rw [this] at q0; exact q0
   ·dsimp only [UF,UG]
    exact hK _ _ ⟨he2, by rw [leftsF_snoc ps j p hp]; exact S2⟩
 ·rintro e1 h2 ⟨he, S⟩
  rw [P.zlen, List.take_length] at S
  change PgH h h2 lf (leftsOf ps) at S
  obtain ⟨qs0, rs0, hps⟩ := D.head
  have hL0 : (leftsOf ps)[0]? = some .S := by
   unfold leftsOf
   rw [hps]
   obtain ⟨r, hr⟩ := pre_leftsF (ps := rs0) (acc := [Nm.S])
   show (leftsF rs0 (addT [] [] Nm.S))[0]? = _
   rw [show addT [] [] Nm.S = [Nm.S] from rfl, hr]; rfl
  have hSm : Nm.S ∈ leftsOf ps := List.mem_of_getElem? hL0
  have hLn : (leftsOf ps).Nodup := nodup_leftsF List.nodup_nil
  have hL12 := nm_len hLn
  refine sc_assign ?_
  dsimp only [EA,EB,EC,ED,EE,EF,EG,EH,EI,EJ,EK,EL,EM,EN,EO,EP,EQ,ER,ES,ET,EU,EV,EW,EX,EY,EZ,Ea,Eb,Ec,JA,JB,JC,JD,JE,JF,JG,UA,UB]
  refine ⟨_, he .start _ rfl, ?_⟩
  refine (if_neg (c := false = true) (t := True) (by simp)).mpr ?_
  have k2 := S.kp.new (.list [])
  refine ⟨_, he .lefts _ rfl, by simp, vStrs (leftsOf ps), ⟨get_new_of S.kp.wf _ S.hx, get_new ..⟩, ?_⟩
  refine (if_neg (c := decide (vStrs (leftsOf ps) = []) = true) (by
   have : vStrs (leftsOf ps) ≠ [] := fun z => by
    unfold vStrs at z; rw [List.map_eq_nil_iff] at z; rw [z] at hSm; cases hSm
   simpa using this)).mpr ?_
  refine ⟨_, he .lefts _ rfl, r_get (n := 0) (get_new_of S.kp.wf _ S.hx) (by lia) (vStrs_at hL0) ?_⟩
  have S3 : PgH h (h2.new (.list [])) lf (leftsOf ps) := ⟨S.w0, k2, S.new, Nat.lt_succ_of_lt S.lt, get_new_of S.kp.wf _ S.hx⟩
  clear k2
  generalize h2.new (.list []) = h3 at S3
  have he3 := he.upd (y := .begin) (w := .str .S) rfl
  refine sc_if false (fun P0 q0 => ?_) ?_
  ·dsimp only [JA,JB,JC,JD,JE,JF,JG,EA,EB,EC,ED,EE,EF,EG,EH,EI,EJ,EK,EL,EM,EN,EO,EP,EQ,ER,ES,ET,EU,EV,EW,EX,EY,EZ,Ea,Eb,Ec]
   refine ⟨_, rfl, _, he3 .lefts _ rfl, _, _, ⟨S3.hx, vin_strs _ _⟩, ?_⟩
   rw [decide_eq_true hSm]; exact q0
  ·rw [if_neg (by simp)]
   show wSs _ (.cons _ _) _ _ _
   refine sc_assign ?_
   dsimp only [EA,EB,EC,ED,EE,EF,EG,EH,EI,EJ,EK,EL,EM,EN,EO,EP,EQ,ER,ES,ET,EU,EV,EW,EX,EY,EZ,Ea,Eb,Ec]
   refine ⟨[V.str .dend, V.str .err, V.str .undef], ⟨rfl, by simp only [room, List.length_cons, List.length_nil]; lia⟩, ?_⟩
   have S4 : PgH h3 (h3.new (.list [V.str .dend, V.str .err, V.str .undef])) h3.nxt (termsF (leftsOf ps) (ps.take 0) own3) := ⟨S3.kp.wf, (Ke.refl S3.kp.wf).new _, Nat.le_refl _, Nat.lt_succ_self _, get_new ..⟩
   have hnm : lf < h3.nxt := S3.lt
   generalize hnme : h3.nxt = nm at S4 hnm ⊢
   generalize h3.new (.list [V.str .dend, V.str .err, V.str .undef]) = h4 at S4
   have heF2 : SubE (pgF2 l lf nm) (upd (upd e1 .begin (.str .S)) .names (.loc nm)) := .cons (.cons (.cons .nil (by first | rfl | exact he .pairs _ rfl | exact he .lefts _ rfl)) (by first | rfl | exact he .pairs _ rfl | exact he .lefts _ rfl)) (by first | rfl | exact he .pairs _ rfl | exact he .lefts _ rfl)
   refine sc_for ?_
   dsimp only [UC,UD,UE,EA,EB,EC,ED,EE,EF,EG,EH,EI,EJ,EK,EL,EM,EN,EO,EP,EQ,ER,ES,ET,EU,EV,EW,EX,EY,EZ,Ea,Eb,Ec]
   refine ⟨_, heF2 .pairs _ rfl, ?_⟩
   have P3 := P.kp S3.kp
   refine for_seq (vs := (ps.zip ks).map fun x => V.tup [.str x.1.1, .loc x.2]) (fun j e' h' => SubE (pgF2 l lf nm) e' ∧ e' .begin = some (.str .S) ∧ PgH h3 h' nm (termsF (leftsOf ps) (ps.take j) own3)) ?_ ?_ ?_ ⟨heF2, rfl, S4⟩
   ·rintro j e' h' ⟨_, _, S⟩
    simp only [items, (P3.kp S.kp).at_]
   ·rintro j e' h' v hv ⟨he', hbe, S'⟩
    obtain ⟨p, kk, hp, hkk, rfl, hpart⟩ := (P3.kp S'.kp).get hv
    refine ⟨_, rfl, fun K hK => ?_⟩
    have he5 := (he'.upd (y := .left) (w := .str p.1) rfl).upd (y := .parts) (w := .loc kk) rfl
    refine sc_for ?_
    dsimp only [UC,UD,UE,EA,EB,EC,ED,EE,EF,EG,EH,EI,EJ,EK,EL,EM,EN,EO,EP,EQ,ER,ES,ET,EU,EV,EW,EX,EY,EZ,Ea,Eb,Ec]
    refine ⟨_, rfl, ?_⟩
    have hpart0 : h3.get kk = some (.list (vStrs p.2)) := P3.part j p kk hp hkk
    refine for_seq (vs := vStrs p.2) (fun i e2 h2 => SubE (pgF2 l lf nm) e2 ∧ e2 .begin = some (.str .S) ∧ PgH h3 h2 nm ((p.2.take i).foldl (addT (leftsOf ps)) (termsF (leftsOf ps) (ps.take j) own3))) ?_ ?_ ?_ ⟨he5, hbe, S'⟩
    ·rintro i e2 h2 ⟨_, _, S2⟩
     simp only [items, S2.kp.get hpart0]
    ·rintro i e2 h2 v2 hv2 ⟨he2, hb2, S2⟩
     obtain ⟨x, hx, rfl⟩ : ∃ x, p.2[i]? = some x ∧ V.str x = v2 := map_at hv2
     refine ⟨_, rfl, fun K2 hK2 => ?_⟩
     have he6 := he2.upd (y := .name) (w := .str x) rfl
     refine pg_add (L := leftsOf ps) (xv := .name) (lv := .names) (x := x) S2 (nodup_foldT (nodup_termsF (by decide))) (he6 .names _ rfl) rfl (fun P0 q0 => ?_) fun h6 S6 hs6 => ?_
     ·dsimp only [JA,JB,JC,JD,JE,JF,JG,EA,EB,EC,ED,EE,EF,EG,EH,EI,EJ,EK,EL,EM,EN,EO,EP,EQ,ER,ES,ET,EU,EV,EW,EX,EY,EZ,Ea,Eb,Ec]
      refine ⟨_, rfl, _, he6 .lefts _ rfl, _, _, ⟨S2.kp.get S3.hx, vin_strs _ _⟩, ?_⟩
      by_cases hxl : x ∈ leftsOf ps
      ·rw [decide_eq_true hxl]
       refine (if_neg (c := (!true) = true) (by simp)).mpr ?_
       rw [decide_eq_true (Or.inl hxl)] at q0
       exact q0
      ·rw [decide_eq_false hxl]
       refine (if_pos (c := (!false) = true) rfl).mpr ?_
       refine ⟨_, rfl, _, he6 .names _ rfl, _, _, ⟨S2.hx, vin_strs _ _⟩, ?_⟩
       have : decide (x ∈ leftsOf ps ∨ x ∈ (p.2.take i).foldl (addT (leftsOf ps)) (termsF (leftsOf ps) (ps.take j) own3)) = decide (x ∈ (p.2.take i).foldl (addT (leftsOf ps)) (termsF (leftsOf ps) (ps.take j) own3)) := decide_eq_decide.mpr ⟨fun z => z.resolve_left hxl, .inr⟩
       rw [this] at q0
       exact q0
     ·dsimp only [UF,UG]
      refine hK2 _ _ ⟨he6, hb2, ?_⟩
      rw [List.take_add_one, hx, List.foldl_append]; exact S6
    ·rintro e2 h2 ⟨he2, hb2, S2⟩
     rw [vStrs_length, List.take_length] at S2
     dsimp only [UF,UG]
     exact hK _ _ ⟨he2, hb2, by rw [termsF_snoc _ ps j p hp]; exact S2⟩
   ·rintro e5 h5 ⟨he5, hbe, S5⟩
    rw [P.zlen, List.take_length] at S5
    change PgH h3 h5 nm (termsOf ps) at S5
    have hTn : (termsOf ps).Nodup := nodup_termsF (by decide)
    have hT12 := nm_len hTn
    exact pg_tail P3 D S5 S3.hx hSm he5 hbe fun h' g L k G N => q h' g L (S3.kp.trans k) G ⟨Nat.le_trans S3.kp.le N.1, Nat.le_trans S3.kp.le N.2.1, Nat.le_trans S3.kp.le N.2.2.1, Nat.le_trans S3.kp.le N.2.2.2.1, Nat.le_trans S3.kp.le N.2.2.2.2.1, fun x hx => Nat.le_trans S3.kp.le (N.2.2.2.2.2 x hx)⟩
end
end Mine
end
section
namespace Mine
noncomputable def PenW (p qd : Nat) : Nat → Prop := fun l => l = p ∨ l = qd
inductive PenE (h : MH) (p qd : Nat) : Prop
 | mk (ms : List Nat) (c d : Nat) (hp : h.get p = some (.list [.loc qd, .int (c : Int), .int (d : Int)])) (hq : h.get qd = some (.list (vInts ms))) (hl : ms.length ≤ 63)
structure PenOk (h : MH) (p qd : Nat) : Prop where
 ex : PenE h p qd
 ne : p ≠ qd
theorem PenOk.ke {h h' : MH} {p qd : Nat} (S : PenOk h p qd) (k : Kp h h') : PenOk h' p qd :=
 ⟨let ⟨ms, c, d, a, b, e⟩ := S.ex; ⟨ms, c, d, k.get a, k.get b, e⟩, S.ne⟩
section
variable {h : MH} {n : Nat} {C : CS}
theorem sc_setSub {e : Env} {a i v : E} {ss : Ss} {Q : Fl → Env → MH → Prop} (q : wE C v e h fun vv h1 => wE C a e h1 fun va h2 => wE C i e h2 fun vi h3 => setSubop va vi vv h3 fun h4 => wSs C ss e h4 Q) : wSs C (.cons (.setSub a i v) ss) e h Q := by dsimp only [UF,UG,YA,YB,YC,YD,YE,YF,YG,YH,YI,YJ,YK,YL]; exact q
theorem sp_law_pen {a : Nat} {ns : List Int} {Q : V → MH → Prop} (w : Wf h) (ho : h.old a = some ns) (hl : ns.length ≤ 63) (q : ∀ h' p qd, Kp h h' → PenOk h' p qd → Q (.loc p) h') : CL prog (n + 1) .law_pen [.old a] h Q := by
 refine ⟨_, rfl, ?_⟩
 dsimp only [prog,body_law_pen,UF,UG,YA,YB,YC,YD,YE,YF,YG,YH,YI,YJ,YK,YL,EA,EB,EC,ED,EE,EF,EG,EH,EI,EJ,EK,EL,EM,EN,EO,EP,EQ,ER,ES,ET,EU,EV,EW,EX,EY,EZ,Ea,Eb,Ec,UA,UB,UC,UD,UE,JA,JB,JC,JD,JE,JF,JG]
 refine ⟨_, rfl, ns, ⟨ho, by unfold small; lia, by simp only [room]; lia⟩, ?_⟩
 have hcut : cutTo (ns.map V.int) 63 = ns.map V.int := by
  unfold cutTo
  rw [if_pos (by lia)]
  exact List.take_of_length_le (by rw [List.length_map]; exact hl)
 rw [hcut]
 have k1 : Kp h (h.new (.list (ns.map V.int))) := (Ke.refl w).new _
 have g1 : (h.new (.list (ns.map V.int))).get h.nxt = some (.list (ns.map V.int)) := get_new ..
 generalize h.new (.list (ns.map V.int)) = h1 at k1 g1
 refine for_seq (vs := ns.map V.int) (fun j acc h2 => h2 = h1 ∧ ∃ ms : List Nat, acc = vInts ms ∧ ms.length = j) ?_ ?_ ?_ ⟨rfl, [], rfl, rfl⟩
 ·rintro j acc h2 ⟨rfl, _⟩
  simp only [items, g1]
 ·rintro j acc h2 v hv ⟨rfl, ms, rfl, hms⟩
  obtain ⟨c, hc, rfl⟩ : ∃ c, ns[j]? = some c ∧ V.int c = v := map_at hv
  have hj := lt_of_get hc
  refine ⟨_, rfl, fun K hK => ?_⟩
  simp only [if_true]
  refine ⟨_, rfl, .inl ⟨c, rfl, c, rfl, ?_⟩⟩
  dsimp only [binop, onI, onW, addW, mulW]
  refine ⟨rfl, _, rfl, .inr ⟨decide (c < 0), rfl, ?_⟩⟩
  refine ⟨by rw [vInts_length]; simp only [room]; lia, hK _ _ ⟨rfl, ms ++ [2 * c.natAbs + (if decide (c < 0) = true then 1 else 0)], ?_, by simp [hms]⟩⟩
  unfold vInts
  rw [List.map_append, List.map_cons, List.map_nil]
  congr 3
  split <;> push_cast <;> rfl
 ·rintro acc h2 ⟨rfl, ms, rfl, hms⟩
  rw [List.length_map] at hms
  have k2 : Kp h (h2.new (.list (vInts ms))) := k1.new _
  refine ⟨by simp, q _ (h2.new (.list (vInts ms))).nxt h2.nxt (k2.new _) ⟨⟨ms, 0, 0, get_new .., get_new_of k2.wf _ (get_new ..), by lia⟩, ?_⟩⟩
  show h2.nxt + 1 ≠ h2.nxt; lia
theorem pen_get {p qd c d : Nat} (hg : h.get p = some (.list [.loc qd, .int (c : Int), .int (d : Int)])) (i : Nat) (hi : i < 3) {P : V → Prop} (q : P ([V.loc qd, .int (c : Int), .int (d : Int)].getD i .none)) : subop (.loc p) (.int (i : Int)) h P := by
 refine r_get hg (by lia) ?_ q
 match i, hi with
 | 0, _ => rfl
 | 1, _ => rfl
 | 2, _ => rfl
theorem draw_tail {h0 : MH} {p qd m c d : Nat} {ms : List Nat} {e : Env} {Q : V → MH → Prop} (k : Ke (PenW p qd) h0 h) (hg : h.get p = some (.list [.loc qd, .int (c : Int), .int (d : Int)])) (hq : h.get qd = some (.list (vInts ms))) (hms : ms.length ≤ 63) (hne : p ≠ qd) (hm : 0 < m) (hm2 : m < 2 ^ 20)
  (he1 : e .pen = some (.loc p)) (he2 : e .many = some (.int (m : Int))) (q : ∀ h' r, Ke (PenW p qd) h0 h' → PenOk h' p qd → r < m → Q (.int (r : Int)) h') :
  wSs C (.cons (.assign .digit (.bin .mod (.b1 .int (.sub (.var .pen) (.int 2))) (.var .many))) (.cons (.setSub (.var .pen) (.int 2) (.bin .div (.b1 .int (.sub (.var .pen) (.int 2))) (.var .many))) (.cons (.ret (.bin .mod (.bin .add (.var .digit) (.sub (.var .pen) (.int 1))) (.var .many))) .nil))) e h
   (fun fl _ h' => match fl with | .ret v => Q v h' | .next => Q V.none h' | .cont => False) := by
 have hsm : small (m : Int) := by unfold small; lia
 have hm0 : (0 : Int) < (m : Int) := by lia
 refine sc_assign ?_
 dsimp only [EA,EB,EC,ED,EE,EF,EG,EH,EI,EJ,EK,EL,EM,EN,EO,EP,EQ,ER,ES,ET,EU,EV,EW,EX,EY,EZ,Ea,Eb,Ec]
 refine ⟨_, he1, pen_get hg 2 (by lia) (.inl ⟨(d : Int), rfl, _, he2, ⟨hm0, hsm⟩, ?_⟩)⟩
 refine sc_setSub ?_
 dsimp only [EA,EB,EC,ED,EE,EF,EG,EH,EI,EJ,EK,EL,EM,EN,EO,EP,EQ,ER,ES,ET,EU,EV,EW,EX,EY,EZ,Ea,Eb,Ec]
 refine ⟨_, he1, pen_get hg 2 (by lia) (.inl ⟨(d : Int), rfl, _, he2, ⟨hm0, hsm⟩, _, he1, .inl ⟨p, _, 2, ⟨rfl, rfl, hg, by lia, by unfold small; lia, by simp⟩, ?_⟩⟩)⟩
 have hd1 : Int.ediv (d : Int) (m : Int) = ((d / m : Nat) : Int) := rfl
 have hd2 : Int.emod (d : Int) (m : Int) = ((d % m : Nat) : Int) := rfl
 rw [hd1, hd2]
 have el : ([V.loc qd, V.int (c : Int), V.int (d : Int)] : List V).set (2 : Int).toNat (V.int ((d / m : Nat) : Int)) = [V.loc qd, V.int (c : Int), V.int ((d / m : Nat) : Int)] := rfl
 rw [el]
 have hpl := k.wf.lt hg
 have k2 := k.set (l := p) (.list [V.loc qd, V.int (c : Int), V.int ((d / m : Nat) : Int)]) (.inr (.inl rfl)) hpl
 refine sc_ret ?_
 dsimp only [EA,EB,EC,ED,EE,EF,EG,EH,EI,EJ,EK,EL,EM,EN,EO,EP,EQ,ER,ES,ET,EU,EV,EW,EX,EY,EZ,Ea,Eb,Ec]
 refine ⟨_, rfl, _, he1, pen_get (get_set ..) 1 (by lia) ?_⟩
 dsimp only [binop, onI, onW, addW, mulW]
 refine ⟨_, he2, ⟨hm0, hsm⟩, ?_⟩
 have er : Int.emod (((d % m : Nat) : Int) + (c : Int)) (m : Int) = (((d % m + c) % m : Nat) : Int) := rfl
 show Q (.int (Int.emod (((d % m : Nat) : Int) + (c : Int)) (m : Int))) _
 rw [er]
 exact q _ _ k2 ⟨⟨ms, c, d / m, get_set .., by rw [get_set_ne _ _ (Ne.symm hne)]; exact hq, hms⟩, hne⟩ (Nat.mod_lt _ hm)
theorem sp_draw {p qd m : Nat} {Q : V → MH → Prop} (w : Wf h) (S : PenOk h p qd) (hm : 0 < m) (hm2 : m < 2 ^ 20) (q : ∀ h' r, Ke (PenW p qd) h h' → PenOk h' p qd → r < m → Q (.int (r : Int)) h') : CL prog (n + 1) .law_draw [.loc p, .int (m : Int)] h Q := by
 obtain ⟨⟨ms, c, d, hg, hq, hms⟩, hne⟩ := S
 refine ⟨_, rfl, ?_⟩
 show wSs (CL prog n) body_law_draw _ h _
 unfold body_law_draw
 refine sc_setSub ?_
 dsimp only [EA,EB,EC,ED,EE,EF,EG,EH,EI,EJ,EK,EL,EM,EN,EO,EP,EQ,ER,ES,ET,EU,EV,EW,EX,EY,EZ,Ea,Eb,Ec]
 refine ⟨_, rfl, pen_get hg 1 (by lia) ?_⟩
 dsimp only [binop, onI, onW, addW, mulW]
 refine ⟨_, rfl, .inl ⟨p, _, 1, ⟨rfl, rfl, hg, by lia, by unfold small; lia, by simp⟩, ?_⟩⟩
 have el : ([V.loc qd, V.int (c : Int), V.int (d : Int)] : List V).set (1 : Int).toNat (V.int ((c : Int) + 1)) = [V.loc qd, V.int ((c + 1 : Nat) : Int), V.int (d : Int)] := rfl
 show wSs _ _ _ (h.set p (.list (([V.loc qd, V.int (c : Int), V.int (d : Int)] : List V).set (1 : Int).toNat (V.int ((c : Int) + 1))))) _
 rw [el]
 have hpl := w.lt hg
 have k1 := (Ke.refl (W := PenW p qd) w).set (l := p) (.list [V.loc qd, V.int ((c + 1 : Nat) : Int), V.int (d : Int)]) (.inr (.inl rfl)) hpl
 have g1 : (h.set p (.list [V.loc qd, V.int ((c + 1 : Nat) : Int), V.int (d : Int)])).get p = _ := get_set ..
 have g2 : (h.set p (.list [V.loc qd, V.int ((c + 1 : Nat) : Int), V.int (d : Int)])).get qd = some (.list (vInts ms)) := by rw [get_set_ne _ _ (Ne.symm hne)]; exact hq
 generalize h.set p (.list [V.loc qd, V.int ((c + 1 : Nat) : Int), V.int (d : Int)]) = h1 at k1 g1 g2
 by_cases hd : d = 0
 ·subst hd
  have k2 := k1.new (.list [])
  have hem : decide ((ms.map fun m : Nat => (m : Int)) = []) = decide (ms = []) := decide_eq_decide.mpr (by rw [List.map_eq_nil_iff])
  have test : ∀ (C : CS) (e : Env) (P : Bool → MH → Prop), e .pen = some (.loc p) → P (!decide (ms = [])) (h1.new (.list [])) → wT C (.and (.cmp .eq (.sub (.var .pen) (.int 2)) (.int 0)) (.cmp .ne (.sub (.var .pen) (.int 0)) (.list .nil))) e h1 P := fun C e P he1 pq => by
   dsimp only [JA,JB,JC,JD,JE,JF,JG,EA,EB,EC,ED,EE,EF,EG,EH,EI,EJ,EK,EL,EM,EN,EO,EP,EQ,ER,ES,ET,EU,EV,EW,EX,EY,EZ,Ea,Eb,Ec,UA,UB]
   refine ⟨_, he1, pen_get g1 2 (by lia) ⟨true, rfl, ?_⟩⟩
   refine (if_pos (c := true = true) rfl).mpr ?_
   refine ⟨_, he1, pen_get g1 0 (by lia) ⟨by simp, .inl ⟨ms.map fun m : Nat => (m : Int), ⟨?_, get_new ..⟩, ?_⟩⟩⟩
   ·rw [get_new_of k1.wf _ g2]; simp [vInts, List.map_map, Function.comp_def]
   ·rw [hem]; exact pq
  rw [show wSs (CL prog n) (.cons (.ite (.and (.cmp .eq (.sub (.var .pen) (.int 2)) (.int 0)) (.cmp .ne (.sub (.var .pen) (.int 0)) (.list .nil))) _ _) _) = wSs (CL prog n) (.cons (.ite (.and (.cmp .eq (.sub (.var .pen) (.int 2)) (.int 0)) (.cmp .ne (.sub (.var .pen) (.int 0)) (.list .nil))) _ _) _) from rfl]
  dsimp only [UF,UG,YA,YB,YC,YD,YE,YF,YG,YH,YI,YJ,YK,YL]
  refine test _ _ _ rfl ?_
  have g1' := get_new_of k1.wf (.list []) g1
  have g2' := get_new_of k1.wf (.list []) g2
  cases ms with
  | nil =>
   refine (if_neg (c := (!decide (([] : List Nat) = [])) = true) (by simp)).mpr ?_
   have := draw_tail (C := CL prog n) (e := upd (upd env0 .many (.int (m : Int))) .pen (.loc p)) k2 g1' g2' hms hne hm hm2 rfl rfl q
   simp only [UF,UG,YA,YB,YC,YD,YE,YF,YG,YH,YI,YJ,YK,YL] at this
   exact this
  | cons m0 ms =>
   refine (if_pos (c := (!decide ((m0 :: ms) = [])) = true) (by simp)).mpr ?_
   dsimp only [EA,EB,EC,ED,EE,EF,EG,EH,EI,EJ,EK,EL,EM,EN,EO,EP,EQ,ER,ES,ET,EU,EV,EW,EX,EY,EZ,Ea,Eb,Ec]
   refine ⟨_, rfl, pen_get g1' 0 (by lia) ⟨qd, V.int (m0 : Int), vInts ms, ⟨rfl, by rw [g2']; rfl, by rw [vInts_length]; simp at hms; simp only [room]; lia⟩, ?_⟩⟩
   have hql := k2.wf.lt g2'
   have k3 := k2.set (l := qd) (.list (vInts ms)) (.inr (.inr rfl)) hql
   have g3 : ((h1.new (.list [])).set qd (.list (vInts ms))).get p = some (.list [V.loc qd, V.int ((c + 1 : Nat) : Int), V.int ((0 : Nat) : Int)]) := by rw [get_set_ne _ _ hne]; exact g1'
   refine ⟨_, rfl, .inl ⟨p, _, 2, ⟨rfl, rfl, g3, by lia, by unfold small; lia, by simp⟩, ?_⟩⟩
   have el2 : ([V.loc qd, V.int ((c + 1 : Nat) : Int), V.int ((0 : Nat) : Int)] : List V).set (2 : Int).toNat (V.int (m0 : Int)) = [V.loc qd, V.int ((c + 1 : Nat) : Int), V.int (m0 : Int)] := rfl
   rw [el2]
   have k4 := k3.set (l := p) (.list [V.loc qd, V.int ((c + 1 : Nat) : Int), V.int (m0 : Int)]) (.inr (.inl rfl)) (k3.wf.lt g3)
   have := draw_tail (C := CL prog n) (e := upd (upd env0 .many (.int (m : Int))) .pen (.loc p)) (ms := ms) k4 (get_set ..) (by rw [get_set_ne _ _ (Ne.symm hne)]; exact get_set ..) (by simp at hms; lia) hne hm hm2 rfl rfl q
   simp only [UF,UG,YA,YB,YC,YD,YE,YF,YG,YH,YI,YJ,YK,YL] at this
   exact this
 ·refine sc_if false (fun P pq => ?_) ?_
  ·dsimp only [JA,JB,JC,JD,JE,JF,JG,EA,EB,EC,ED,EE,EF,EG,EH,EI,EJ,EK,EL,EM,EN,EO,EP,EQ,ER,ES,ET,EU,EV,EW,EX,EY,EZ,Ea,Eb,Ec]
   refine ⟨_, rfl, pen_get g1 2 (by lia) ⟨false, ?_, ?_⟩⟩
   ·show some (decide ((d : Int) = 0)) = _
    rw [decide_eq_false (by lia)]
   ·exact pq
  ·rw [if_neg (by simp)]
   exact draw_tail k1 g1 g2 hms hne hm hm2 rfl rfl q
theorem sp_pick {p qd sl : Nat} {vs : List V} {Q : V → MH → Prop} (w : Wf h) (S : PenOk h p qd) (hs : h.get sl = some (.list vs)) (h1 : sl ≠ p) (h2 : sl ≠ qd) (hl : 0 < vs.length) (hl2 : vs.length ≤ 1000) (q : ∀ h' v, Ke (PenW p qd) h h' → PenOk h' p qd → v ∈ vs → Q v h') : CL prog (n + 2) .law_pick [.loc p, .loc sl] h Q := by
 refine ⟨_, rfl, ?_⟩
 dsimp only [prog,body_law_pick,UF,UG,YA,YB,YC,YD,YE,YF,YG,YH,YI,YJ,YK,YL,EA,EB,EC,ED,EE,EF,EG,EH,EI,EJ,EK,EL,EM,EN,EO,EP,EQ,ER,ES,ET,EU,EV,EW,EX,EY,EZ,Ea,Eb,Ec,UA,UB]
 refine ⟨_, rfl, _, rfl, _, rfl, r_lenL hs (by simp only [room]; lia) ?_⟩
 refine sp_draw w S hl (by lia) fun h' r k S' hr => ?_
 refine r_get (k.keep _ _ hs fun z => z.elim h1 h2) (by lia) (List.getElem?_eq_getElem hr) (q h' _ k S' (List.getElem_mem hr))
end
end Mine
end
section
namespace Mine
theorem PAt.ke {W : Nat → Prop} {h h' : MH} {l : Nat} {ps : List Pr} {ks : List Nat} (P : PAt h l ps ks) (k : Ke W h h') (hl : ¬ W l) (hk : ∀ x ∈ ks, ¬ W x) : PAt h' l ps ks :=
 ⟨k.keep _ _ P.at_ hl, P.len, fun i p q h1 h2 => k.keep _ _ (P.part i p q h1 h2) (hk q (List.mem_of_getElem? h2))⟩
section
variable {h : MH} {n : Nat}
theorem pick_in {ns : List Nat} {v : V} {p : Nat → Prop} (h : v ∈ ns.map fun n : Nat => V.int (n : Int)) (hp : ∀ k ∈ ns, p k) : ∃ m : Nat, v = .int (m : Int) ∧ p m := by
 obtain ⟨m, hm, rfl⟩ := List.mem_map.mp h
 exact ⟨m, rfl, hp m hm⟩
inductive PiI (h : MH) (p qd : Nat) (cs : List Nm) (i : Nat) (acc : List V) (h2 : MH) : Prop
 | mk (k : Ke (PenW p qd) h h2) (S : PenOk h2 p qd) (xs : List Nm) (ha : acc = vStrs xs) (hl : xs.length = i) (hc : ∀ x ∈ xs, x ∈ cs)
theorem q_picks {p qd : Nat} {cs : List Nm} {e : Env} {X R : E} {Q : V → MH → Prop} (hcs : 0 < cs.length) (hcs2 : cs.length ≤ 100) (hp : e .pen = some (.loc p))
  (hR : ∀ P : V → MH → Prop, (∀ h' (m : Nat), Ke (PenW p qd) h h' → PenOk h' p qd → m ≤ 3 → P (.int (m : Int)) h') → wE (CL prog (n + 2)) R e h P)
  (hX : ∀ e' h' (P : V → MH → Prop), Ke (PenW p qd) h h' → (∀ x, x ≠ .spot → e' x = e x) → (∀ h'' sl, Kp h' h'' → h''.get sl = some (.list (vStrs cs)) → sl ≠ p → sl ≠ qd → P (.loc sl) h'') → wE (CL prog (n + 2)) X e' h' P)
  (q : ∀ h' xs, Ke (PenW p qd) h h' → PenOk h' p qd → xs.length ≤ 3 → (∀ x ∈ xs, x ∈ cs) → Q (.loc h'.nxt) (h'.new (.list (vStrs xs)))) :
  wE (CL prog (n + 2)) (.comp (.call .law_pick (.cons (.var .pen) (.cons X .nil))) [.spot] (.range R) .tt) e h Q := by
 refine q_comp ?_
 dsimp only [UC,UD,UE]
 refine hR _ fun h1 m k1 S1 hm => ⟨_, ⟨rfl, by unfold small; lia⟩, ?_⟩
 refine for_range (PiI h p qd cs) (by lia) ?_ ?_ ⟨k1, S1, [], rfl, rfl, by simp⟩
 ·rintro i acc h2 hi ⟨k2, S2, xs, rfl, hxl, hxc⟩ K hK
  simp only [JA,JB,JC,JD,JE,JF,JG,if_true]
  refine q_call ?_
  dsimp only [UA,UB,EA,EB,EC,ED,EE,EF,EG,EH,EI,EJ,EK,EL,EM,EN,EO,EP,EQ,ER,ES,ET,EU,EV,EW,EX,EY,EZ,Ea,Eb,Ec]
  refine ⟨_, hp, hX _ h2 _ k2 (fun x hx => if_neg hx) fun h3 sl k3 g3 n1 n2 => ?_⟩
  refine sp_pick k3.wf (S2.ke k3) g3 n1 n2 (by rw [vStrs_length]; exact hcs) (by rw [vStrs_length]; lia) fun h4 v k4 S4 hv => ?_
  obtain ⟨x, hx, rfl⟩ := List.mem_map.mp hv
  refine ⟨by rw [vStrs_length]; simp only [room]; lia, hK _ _ ⟨(k2.trans k3.up).trans k4, S4, xs ++ [x], by simp [vStrs], by simp [hxl], fun y hy => ?_⟩⟩
  rcases List.mem_append.mp hy with hy | hy
  ·exact hxc y hy
  ·simp at hy; subst hy; exact hx
 ·rintro acc h2 ⟨k2, S2, xs, rfl, hxl, hxc⟩
  exact q h2 xs k2 S2 (by lia) hxc
structure DrH (h0 h : MH) (p qd N : Nat) (ps : List Pr) (ks : List Nat) : Prop where
 w0 : Wf h0
 ke : Ke (PenW p qd) h0 h
 pen : PenOk h p qd
 hp : p < h0.nxt
 hq : qd < h0.nxt
 new : h0.nxt ≤ N
 lt : N < h.nxt
 P : PAt h N ps ks
 ks : ∀ k ∈ ks, h0.nxt ≤ k ∧ k ≠ N
theorem DrH.step {h0 h h' : MH} {p qd N : Nat} {ps : List Pr} {ks : List Nat} (S : DrH h0 h p qd N ps ks) (k : Ke (PenW p qd) h h') (S' : PenOk h' p qd) : DrH h0 h' p qd N ps ks := by
 have hp := S.hp
 have hq := S.hq
 have hn := S.new
 refine ⟨S.w0, S.ke.trans k, S', S.hp, S.hq, S.new, Nat.lt_of_lt_of_le S.lt k.le, S.P.ke k ?_ fun x hx => ?_, S.ks⟩
 ·rintro (z | z) <;> lia
 ·have := (S.ks x hx).1
  rintro (z | z) <;> lia
theorem DrH.add {h0 h : MH} {p qd N : Nat} {ps : List Pr} {ks : List Nat} (S : DrH h0 h p qd N ps ks) {x : Nm} {k : Nat} {xs : List Nm} (hk : h.get k = some (.list (vStrs xs))) (hkn : h0.nxt ≤ k) (hkN : k ≠ N) :
  DrH h0 (h.set N (.list (((ps.zip ks).map fun x => V.tup [.str x.1.1, .loc x.2]) ++ [V.tup [.str x, .loc k]]))) p qd N (ps ++ [(x, xs)]) (ks ++ [k]) := by
 have hp := S.hp
 have hq := S.hq
 have hn := S.new
 have hz : (ps ++ [(x, xs)]).zip (ks ++ [k]) = ps.zip ks ++ [((x, xs), k)] := by rw [List.zip_append S.P.len.symm]; rfl
 refine ⟨S.w0, S.ke.set _ (.inl (S.w0 _ S.new)) S.lt, ?_, S.hp, S.hq, S.new, S.lt, ⟨by rw [hz, List.map_append]; exact get_set .., by rw [List.length_append, List.length_append, S.P.len]; rfl, fun i p1 k1 h1 h2 => ?_⟩, fun k1 h1 => ?_⟩
 ·obtain ⟨⟨ms, c, d, a, b, z⟩, ne⟩ := S.pen
  exact ⟨⟨ms, c, d, by rw [get_set_ne _ _ (by lia)]; exact a, by rw [get_set_ne _ _ (by lia)]; exact b, z⟩, ne⟩
 ·by_cases hi : i < ps.length
  ·rw [List.getElem?_append_left hi] at h1
   rw [List.getElem?_append_left (by rw [S.P.len]; exact hi)] at h2
   rw [get_set_ne _ _ (S.ks k1 (List.mem_of_getElem? h2)).2]; exact S.P.part i p1 k1 h1 h2
  ·have hl := lt_of_get h1
   rw [List.length_append, List.length_singleton] at hl
   have : i = ps.length := by lia
   subst this
   rw [List.getElem?_append_right (Nat.le_refl _), Nat.sub_self] at h1
   rw [← S.P.len, List.getElem?_append_right (Nat.le_refl _), Nat.sub_self] at h2
   cases h1; cases h2
   rw [get_set_ne _ _ hkN]; exact hk
 ·rcases List.mem_append.mp h1 with h1 | h1
  ·exact S.ks k1 h1
  ·simp at h1; subst h1; exact ⟨hkn, hkN⟩
noncomputable def nms (k : Nat) : List Nm := ([.S, .T, .U] : List Nm).take k
noncomputable def dpF (p nm N : Nat) : Env := upd (upd (upd env0 .pairs (.loc N)) .names (.loc nm)) .pen (.loc p)
theorem q_tup2 {C : CS} {e : Env} {a b : E} {Q : V → MH → Prop} (q : wE C a e h fun va h1 => wE C b e h1 fun vb h2 => ∃ ws : List W, ([va, vb] = ws.map V.w ∧ ws.length ≤ 100) ∧ Q (.tup ws) h2) : wE C (.tup (.cons a (.cons b .nil))) e h Q := by
 dsimp only [EA,EB,EC,ED,EE,EF,EG,EH,EI,EJ,EK,EL,EM,EN,EO,EP,EQ,ER,ES,ET,EU,EV,EW,EX,EY,EZ,Ea,Eb,Ec,UA,UB]; exact q
theorem q_strs {C : CS} {e : Env} {es : Es} {xs : List Nm} {Q : V → MH → Prop} (hes : ∀ (h' : MH) (P : List V → MH → Prop), P (vStrs xs) h' → wEs C es e h' P) (hl : xs.length ≤ 100) (q : Q (.loc h.nxt) (h.new (.list (vStrs xs)))) : wE C (.list es) e h Q := by
 dsimp only [EA,EB,EC,ED,EE,EF,EG,EH,EI,EJ,EK,EL,EM,EN,EO,EP,EQ,ER,ES,ET,EU,EV,EW,EX,EY,EZ,Ea,Eb,Ec]
 exact hes _ _ ⟨by rw [vStrs_length]; exact hl, q⟩
inductive DpI (h : MH) (p qd nm N k : Nat) (j : Nat) (e' : Env) (h' : MH) : Prop
 | mk (he : SubE (dpF p nm N) e') (g : h'.get nm = some (.list (vStrs (nms k)))) (ps : List Pr) (ks : List Nat) (D : DrH h h' p qd N ps ks) (hps : ps.map (·.1) = (nms k).take j) (hpp : ∀ p ∈ ps, p.2.length ≤ 3 ∧ ∀ x ∈ p.2, Let3 x)
inductive DpJ (h : MH) (p qd nm N k : Nat) (ps : List Pr) (j : Nat) (e' : Env) (h' : MH) : Prop
 | mk (he : SubE (dpF p nm N) e') (g : h'.get nm = some (.list (vStrs (nms k)))) (qs : List Pr) (ks : List Nat) (D : DrH h h' p qd N (ps ++ qs) ks) (hl : qs.length = j) (hn : ∀ p ∈ qs, p.1 ∈ nms k)
  (hp : ∀ p ∈ qs, p.2.length ≤ 3 ∧ ∀ x ∈ p.2, x = .a ∨ x = .b ∨ x ∈ nms k)
theorem sp_law_pairs {p qd : Nat} {Q : V → MH → Prop} (w : Wf h) (S : PenOk h p qd)
  (q : ∀ h' N ps ks, Ke (PenW p qd) h h' → PenOk h' p qd → PAt h' N ps ks → h.nxt ≤ N → (∀ k ∈ ks, h.nxt ≤ k) → Drawn ps → ps.length ≤ 8 → (∀ p ∈ ps, p.2.length ≤ 3) → Q (.loc N) h') : CL prog (n + 3) .law_pairs [.loc p] h Q := by
 obtain ⟨⟨ms, c, d, gp, gq, _⟩, hne⟩ := id S
 have hp := w.lt gp
 have hq := w.lt gq
 refine ⟨_, rfl, ?_⟩
 show wSs (CL prog (n + 2)) body_law_pairs _ h _
 unfold body_law_pairs
 refine sc_assign ?_
 dsimp only [EA,EB,EC,ED,EE,EF,EG,EH,EI,EJ,EK,EL,EM,EN,EO,EP,EQ,ER,ES,ET,EU,EV,EW,EX,EY,EZ,Ea,Eb,Ec,UA,UB]
 refine ⟨by simp, _, rfl, by simp, ?_⟩
 have k1 : Kp h (h.new (.list [V.str .S, V.str .T, V.str .U])) := (Ke.refl w).new _
 have k2 : Kp h ((h.new (.list [V.str .S, V.str .T, V.str .U])).new (.list [V.int 2, V.int 1, V.int 2, V.int 3])) := k1.new _
 have g1 := get_new_of k1.wf (.list [V.int 2, V.int 1, V.int 2, V.int 3]) (get_new h (.list [V.str .S, V.str .T, V.str .U]))
 refine sp_pick k2.wf (S.ke k2) (get_new ..) (by show h.nxt + 1 ≠ p; lia) (by show h.nxt + 1 ≠ qd; lia) (by simp) (by simp) fun h3 v k3 S3 hv => ?_
 obtain ⟨k, rfl, hk1, hk3⟩ := pick_in (ns := [2, 1, 2, 3]) (p := fun k => 1 ≤ k ∧ k ≤ 3) hv (by decide)
 have kk3 : Ke (PenW p qd) h h3 := k2.up.trans k3
 have g3 : h3.get h.nxt = some (.list [V.str .S, V.str .T, V.str .U]) := k3.keep _ _ g1 (by rintro (z | z) <;> lia)
 refine ⟨_, ⟨g3, by unfold small; lia, by simp only [room, List.length_cons, List.length_nil]; lia⟩, ?_⟩
 have hcut : cutTo [V.str .S, V.str .T, V.str .U] (k : Int) = vStrs (nms k) := by
  unfold cutTo
  rw [if_pos (by lia), Int.toNat_natCast]
  unfold nms vStrs; rw [List.map_take]; rfl
 rw [hcut]
 have hnl : (nms k).length = k := by unfold nms; rw [List.length_take]; simp; lia
 have k4 : Ke (PenW p qd) h (h3.new (.list (vStrs (nms k)))) := kk3.new _
 have S4 : PenOk (h3.new (.list (vStrs (nms k)))) p qd := S3.ke ((Ke.refl k3.wf).new _)
 have g4 : (h3.new (.list (vStrs (nms k)))).get h3.nxt = some (.list (vStrs (nms k))) := get_new ..
 have hnm : h.nxt ≤ h3.nxt := kk3.le
 generalize h3.new (.list (vStrs (nms k))) = h4 at k4 S4 g4
 generalize h3.nxt = nm at g4 hnm ⊢
 refine sc_assign ?_
 dsimp only [EA,EB,EC,ED,EE,EF,EG,EH,EI,EJ,EK,EL,EM,EN,EO,EP,EQ,ER,ES,ET,EU,EV,EW,EX,EY,EZ,Ea,Eb,Ec,UA,UB]
 refine ⟨by simp, ?_⟩
 have hnm4 := k4.wf.lt g4
 have D0 : DrH h (h4.new (.list [])) p qd h4.nxt [] [] := ⟨w, k4.new _, S4.ke ((Ke.refl k4.wf).new _), hp, hq, k4.le, Nat.lt_succ_self _, ⟨get_new .., rfl, fun i p1 k1 h1 => by simp at h1⟩, fun k hk => by simp at hk⟩
 have g5 := get_new_of k4.wf (.list []) g4
 have hNn : h4.nxt ≠ nm := by lia
 generalize h4.new (.list []) = h5 at D0 g5
 generalize h4.nxt = N at D0 hNn ⊢
 have heF : SubE (dpF p nm N) (upd (upd (upd env0 .pen (.loc p)) .names (.loc nm)) .pairs (.loc N)) := .cons (.cons (.cons .nil rfl) rfl) rfl
 have hnW : ¬ PenW p qd nm := by rintro (z | z) <;> lia
 refine sc_for ?_
 dsimp only [UC,UD,UE,EA,EB,EC,ED,EE,EF,EG,EH,EI,EJ,EK,EL,EM,EN,EO,EP,EQ,ER,ES,ET,EU,EV,EW,EX,EY,EZ,Ea,Eb,Ec]
 refine ⟨_, heF .names _ rfl, ?_⟩
 refine for_seq (vs := vStrs (nms k)) (DpI h p qd nm N k) ?_ ?_ ?_
  ⟨heF, g5, [], [], D0, rfl, fun p hp => by simp at hp⟩
 ·rintro j e' h' ⟨_, g, _⟩
  simp only [items, g]
 ·rintro j e' h' v hv ⟨he, g, ps, ks, D, hps, hpp⟩
  obtain ⟨x, hx, rfl⟩ : ∃ x, (nms k)[j]? = some x ∧ V.str x = v := map_at hv
  refine ⟨_, rfl, fun K hK => ?_⟩
  have he1 := he.upd (y := .name) (w := .str x) rfl
  refine sc_expr (q_append (r_var (v := .loc N) (he1 .pairs _ rfl) ⟨⟨_, _, rfl, D.P.at_⟩, ?_⟩))
  refine q_tup2 (r_var rfl ?_)
  refine q_picks (p := p) (qd := qd) (cs := [.a, .b, .c]) (by simp) (by simp) (he1 .pen _ rfl) (fun P0 p0 => ?_) (fun e2 h2 P0 k2 he2 p0 => ?_) fun h6 xs k6 S6 hxl hxc => ?_
  ·refine q_call ?_
   dsimp only [UA,UB,EA,EB,EC,ED,EE,EF,EG,EH,EI,EJ,EK,EL,EM,EN,EO,EP,EQ,ER,ES,ET,EU,EV,EW,EX,EY,EZ,Ea,Eb,Ec]
   refine ⟨_, he1 .pen _ rfl, by simp, ?_⟩
   have kn : Kp h' (h'.new (.list [V.int 1, V.int 0, V.int 2, V.int 1])) := (Ke.refl D.ke.wf).new _
   have hle := D.ke.le
   refine sp_pick kn.wf (D.pen.ke kn) (get_new ..) (by lia) (by lia) (by simp) (by simp) fun h7 v7 k7 S7 hv7 => ?_
   obtain ⟨m, rfl, hm⟩ := pick_in (ns := [1, 0, 2, 1]) (p := fun m => m ≤ 3) hv7 (by decide)
   exact p0 h7 m (kn.up.trans k7) S7 hm
  ·have hle := D.ke.le
   have hle2 := k2.le
   refine q_strs (xs := [.a, .b, .c]) (fun h' P1 p1 => by dsimp only [UA,UB,EA,EB,EC,ED,EE,EF,EG,EH,EI,EJ,EK,EL,EM,EN,EO,EP,EQ,ER,ES,ET,EU,EV,EW,EX,EY,EZ,Ea,Eb,Ec]; exact p1) (by simp) (p0 _ _ ((Ke.refl k2.wf).new _) (get_new ..) (by lia) (by lia))
  ·have D6 := D.step (k6.new (.list (vStrs xs))) (S6.ke ((Ke.refl k6.wf).new _))
   have hle := k6.le
   have hN := D.lt
   have hle0 := D.ke.le
   have hj := lt_of_get hx
   have hpl : ps.length = j := by
    have z := congrArg List.length hps
    rw [List.length_map, List.length_take] at z; lia
   refine ⟨[.str x, .loc h6.nxt], ⟨rfl, by simp⟩, N, _, ⟨rfl, D6.P.at_, by rw [D.P.zlen, hpl]; simp only [room]; lia⟩, rfl, ?_⟩
   dsimp only [UF,UG]
   have D7 := D6.add (x := x) (k := h6.nxt) (xs := xs) (get_new ..) (by lia) (by lia)
   refine hK _ _ ⟨he1, ?_, _, _, D7, ?_, fun p1 hp1 => ?_⟩
   ·rw [get_set_ne _ _ (Ne.symm hNn)]
    exact get_new_of k6.wf _ (k6.keep _ _ g hnW)
   ·rw [List.map_append, hps, List.take_add_one, hx]; rfl
   ·rcases List.mem_append.mp hp1 with hp1 | hp1
    ·exact hpp p1 hp1
    ·simp at hp1; subst hp1
     refine ⟨hxl, fun y hy => ?_⟩
     have := hxc y hy
     unfold Let3; simpa using this
 ·rintro e' h' ⟨he, g, ps, ks, D, hps, hpp⟩
  rw [vStrs_length, List.take_length] at hps
  have hpl : ps.length = k := by rw [← hnl, ← hps, List.length_map]
  refine sc_for ?_
  dsimp only [UC,UD,UE,EA,EB,EC,ED,EE,EF,EG,EH,EI,EJ,EK,EL,EM,EN,EO,EP,EQ,ER,ES,ET,EU,EV,EW,EX,EY,EZ,Ea,Eb,Ec]
  refine ⟨_, he .names _ rfl, r_lenL g (by rw [vStrs_length, hnl]; simp only [room]; lia) ?_⟩
  dsimp only [binop, onI, onW, addW, mulW]
  refine ⟨_, _, ⟨rfl, rfl⟩, _, ⟨rfl, ?_⟩, ?_⟩
  ·rw [vStrs_length, hnl]; unfold small; lia
  ·have hmax : max (1 : Int) (5 - ((vStrs (nms k)).length : Int)) = ((5 - k : Nat) : Int) := by rw [vStrs_length, hnl]; lia
   rw [hmax]
   refine for_range (DpJ h p qd nm N k ps) (by lia) ?_ ?_
    ⟨he, g, [], ks, by rw [List.append_nil]; exact D, rfl, fun p hp => by simp at hp, fun p hp => by simp at hp⟩
   ·rintro j e2 h2 hj ⟨he2, g2, qs, ks2, D2, hql, hqn, hqp⟩ K hK
    have he3 := he2.upd (y := .turn) (w := .int (j : Int)) rfl
    have hle := D2.ke.le
    refine sc_assign2 ?_
    refine q_call ?_
    dsimp only [UA,UB,EA,EB,EC,ED,EE,EF,EG,EH,EI,EJ,EK,EL,EM,EN,EO,EP,EQ,ER,ES,ET,EU,EV,EW,EX,EY,EZ,Ea,Eb,Ec]
    refine ⟨_, he3 .pen _ rfl, _, he3 .names _ rfl, ?_⟩
    refine sp_pick D2.ke.wf D2.pen g2 (by lia) (by lia) (by rw [vStrs_length, hnl]; lia) (by rw [vStrs_length, hnl]; lia) fun h3 v3 k3 S3 hv3 => ?_
    obtain ⟨x, hx, rfl⟩ := List.mem_map.mp hv3
    have D3 := D2.step k3 S3
    refine ⟨_, he3 .pen _ rfl, by simp, ?_⟩
    have kn : Kp h3 (h3.new (.list [V.int 2, V.int 3, V.int 1, V.int 2])) := (Ke.refl D3.ke.wf).new _
    have hle3 := D3.ke.le
    refine sp_pick kn.wf (S3.ke kn) (get_new ..) (by lia) (by lia) (by simp) (by simp) fun h7 v7 k7 S7 hv7 => ?_
    obtain ⟨m, rfl, hm⟩ := pick_in (ns := [2, 3, 1, 2]) (p := fun m => m ≤ 3) hv7 (by decide)
    have D7 := D3.step (kn.up.trans k7) S7
    have g7 : h7.get nm = some (.list (vStrs (nms k))) := k7.keep _ _ (kn.get (k3.keep _ _ g2 hnW)) hnW
    refine ⟨.str x, .int (m : Int), ⟨by decide, rfl, rfl⟩, ?_⟩
    have he5 := (he3.upd (y := .name) (w := .str x) rfl).upd (y := .many) (w := .int (m : Int)) rfl
    refine sc_expr (q_append (r_var (v := .loc N) (he5 .pairs _ rfl) ⟨⟨_, _, rfl, D7.P.at_⟩, ?_⟩))
    refine q_tup2 (r_var rfl ?_)
    have hcsl : ([Nm.a, .b] ++ nms k ++ nms k).length = 2 + k + k := by simp [hnl]; lia
    refine q_picks (p := p) (qd := qd) (cs := [.a, .b] ++ nms k ++ nms k) (by rw [hcsl]; lia) (by rw [hcsl]; lia) (he5 .pen _ rfl) (fun P0 p0 => r_var rfl (p0 h7 m (Ke.refl D7.ke.wf) S7 hm)) (fun e8 h8 P0 k8 he8 p0 => ?_) fun h9 xs k9 S9 hxl hxc => ?_
    ·have g8 : h8.get nm = some (.list (vStrs (nms k))) := k8.keep _ _ g7 hnW
     have en8 : e8 .names = some (.loc nm) := (he8 .names (by decide)).trans (he5 .names _ rfl)
     have hle8 := k8.le
     have hle7 := D7.ke.le
     refine q_bin ?_
     refine q_bin ?_
     refine q_strs (xs := [.a, .b]) (fun h' P1 p1 => by dsimp only [UA,UB,EA,EB,EC,ED,EE,EF,EG,EH,EI,EJ,EK,EL,EM,EN,EO,EP,EQ,ER,ES,ET,EU,EV,EW,EX,EY,EZ,Ea,Eb,Ec]; exact p1) (by simp) ?_
     have ka : Kp h8 (h8.new (.list (vStrs [.a, .b]))) := (Ke.refl k8.wf).new _
     refine r_var (v := .loc nm) en8 ⟨vStrs [.a, .b], vStrs (nms k), ⟨get_new .., ka.get g8, by rw [vStrs_length, vStrs_length, hnl]; simp only [room, List.length_cons, List.length_nil]; lia⟩, ?_⟩
     have kb : Kp h8 ((h8.new (.list (vStrs [.a, .b]))).new (.list (vStrs [.a, .b] ++ vStrs (nms k)))) := ka.new _
     refine r_var (v := .loc nm) en8 ⟨vStrs [.a, .b] ++ vStrs (nms k), vStrs (nms k), ⟨get_new .., kb.get g8, by rw [List.length_append, vStrs_length, vStrs_length, hnl]; simp only [room, List.length_cons, List.length_nil]; lia⟩, ?_⟩
     have ev : (vStrs [.a, .b] ++ vStrs (nms k)) ++ vStrs (nms k) = vStrs ([.a, .b] ++ nms k ++ nms k) := by simp [vStrs]
     rw [ev]
     refine p0 _ _ (kb.new _) (get_new ..) ?_ ?_
     ·show h8.nxt + 1 + 1 ≠ p; lia
     ·show h8.nxt + 1 + 1 ≠ qd; lia
    ·have D9 := D7.step (k9.new (.list (vStrs xs))) (S9.ke ((Ke.refl k9.wf).new _))
     have hle9 := k9.le
     have hN := D7.lt
     have hle7 := D7.ke.le
     refine ⟨[.str x, .loc h9.nxt], ⟨rfl, by simp⟩, N, _, ⟨rfl, D9.P.at_, by rw [D7.P.zlen, List.length_append, hpl, hql]; simp only [room]; lia⟩, rfl, ?_⟩
     dsimp only [UF,UG]
     have D10 := D9.add (x := x) (k := h9.nxt) (xs := xs) (get_new ..) (by lia) (by lia)
     rw [List.append_assoc] at D10
     refine hK _ _ ⟨he5, ?_, _, _, D10, by simp [hql], fun p1 hp1 => ?_, fun p1 hp1 => ?_⟩
     ·rw [get_set_ne _ _ (Ne.symm hNn)]
      exact get_new_of k9.wf _ (k9.keep _ _ g7 hnW)
     ·rcases List.mem_append.mp hp1 with hp1 | hp1
      ·exact hqn p1 hp1
      ·simp at hp1; subst hp1; exact hx
     ·rcases List.mem_append.mp hp1 with hp1 | hp1
      ·exact hqp p1 hp1
      ·simp at hp1; subst hp1
       refine ⟨hxl, fun y hy => ?_⟩
       have := hxc y hy
       simp only [List.cons_append, List.nil_append, List.mem_cons, List.mem_append] at this
       rcases this with z | z | z | z
       ·exact .inl z
       ·exact .inr (.inl z)
       ·exact .inr (.inr z)
       ·exact .inr (.inr z)
   ·rintro e2 h2 ⟨he2, g2, qs, ks2, D2, hql, hqn, hqp⟩
    refine sc_ret (r_var (he2 .pairs _ rfl) ?_)
    have hnt : ∀ x ∈ nms k, NT3 x := fun x hx => by
     have := List.mem_of_mem_take hx
     unfold NT3; simpa using this
    have hm1 : ∀ x ∈ nms k, x ∈ (ps ++ qs).map (·.1) := fun x hx => by rw [List.map_append, hps]; exact List.mem_append_left _ hx
    refine q h2 N (ps ++ qs) ks2 D2.ke D2.pen D2.P D2.new (fun z hz => (D2.ks z hz).1) ⟨fun p1 h1 => ?_, fun p1 h1 x hx => ?_, by rw [List.length_append, hpl, hql]; lia, fun p1 h1 => ?_, ?_⟩ (by rw [List.length_append, hpl, hql]; lia) fun p1 h1 => ?_
    ·rcases List.mem_append.mp h1 with h1 | h1
     ·exact hnt _ (by rw [← hps]; exact List.mem_map_of_mem (f := (·.1)) h1)
     ·exact hnt _ (hqn p1 h1)
    ·rcases List.mem_append.mp h1 with h1 | h1
     ·exact .inl ((hpp p1 h1).2 x hx)
     ·rcases (hqp p1 h1).2 x hx with z | z | z
      ·exact .inl (.inl z)
      ·exact .inl (.inr (.inl z))
      ·exact .inr (hm1 x z)
    ·rcases List.mem_append.mp h1 with h1 | h1
     ·have := (hpp p1 h1).1; lia
     ·have := (hqp p1 h1).1; lia
    ·cases ps with
     | nil => simp at hpl; lia
     | cons p1 ps' =>
      obtain ⟨a1, a2⟩ := p1
      have : (nms k)[0]? = some a1 := by rw [← hps]; rfl
      have h0 : (nms k)[0]? = some .S := by unfold nms; rw [List.getElem?_take_of_lt (by lia)]; rfl
      rw [h0] at this; cases this
      exact ⟨a2, ps' ++ qs, rfl⟩
    ·rcases List.mem_append.mp h1 with h1 | h1
     ·exact (hpp p1 h1).1
     ·exact (hqp p1 h1).1
end
end Mine
end
section
namespace Mine
abbrev acc (ps : List Pr) : List Pr := (.accept, [.S, .dend]) :: ps
noncomputable def num (ps : List Pr) (s : Nm) : Nat := if s = .mark then (termsOf ps).length else sg ps s
section
variable {ps : List Pr} (D : Drawn ps)
include D in
theorem acc_name {p : Pr} (hp : p ∈ acc ps) : p.1 ∈ namesOf ps ∧ ∀ x ∈ p.2, x ∈ namesOf ps := by
 rcases List.mem_cons.mp hp with rfl | hp
 ·refine ⟨by unfold namesOf; simp, fun x hx => ?_⟩
  simp only [List.mem_cons, List.not_mem_nil, or_false] at hx
  rcases hx with rfl | rfl
  ·obtain ⟨qs, rs, h⟩ := D.head
   exact left_name (p := (Nm.S, qs)) (by rw [h]; exact .head _)
  ·unfold namesOf
   exact List.mem_append_left _ (List.mem_append_left _ (mem_termsOf.mpr (.inl (by decide))))
 ·exact ⟨left_name hp, fun x hx => part_name hp hx⟩
theorem rules_mem {p : Pr} (hp : p ∈ acc ps) : ((sg ps p.1, p.2.map (sg ps)) : Rl) ∈ rulesN ps (acc ps) := List.mem_map_of_mem (f := fun p : Pr => ((sg ps p.1, p.2.map (sg ps)) : Rl)) hp
theorem nulN_left {x : Nm} (h : NulN ps x) : x ∈ ps.map (·.1) := by cases h with | mk hp _ => exact List.mem_map_of_mem hp
include D in
theorem nul_iff {x : Nm} (hx : x ∈ namesOf ps) : Nul (rulesN ps (acc ps)) (sg ps x) ↔ NulN ps x := by
 constructor
 ·intro h
  generalize hs : sg ps x = s at h
  induction h generalizing x with
  | mk hr ht ih =>
   obtain ⟨p, hp, rfl⟩ := List.mem_map.mp hr
   obtain ⟨hn1, hn2⟩ := acc_name D hp
   have : x = p.1 := sg_inj hx hn1 hs
   subst this
   rcases List.mem_cons.mp hp with rfl | hp
   ·exfalso
    have h1 := ih (sg ps .dend) (by simp) (x := .dend) (hn2 .dend (by simp)) rfl
    have h2 := D.left _ (List.mem_map.mp (nulN_left h1)).choose_spec.1
    rw [(List.mem_map.mp (nulN_left h1)).choose_spec.2] at h2
    unfold NT3 at h2; simp at h2
   ·exact .mk hp fun y hy => ih (sg ps y) (List.mem_map_of_mem hy) (part_name hp hy) rfl
 ·intro h
  clear hx
  induction h with
  | mk hp _ ih =>
   refine .mk (r := (sg ps _, _)) (rules_mem (List.mem_cons_of_mem _ hp)) fun t ht => ?_
   obtain ⟨y, hy, rfl⟩ := List.mem_map.mp ht
   exact ih y hy
theorem ahead_map {f : Nat → Bool} {g : Nm → Bool} {σ : Nm → Nat} {xs : List Nm} (h : ∀ x ∈ xs, f (σ x) = g x) : ahead f (xs.map σ) = ((ahead g xs).1.map σ, (ahead g xs).2) := by
 induction xs with
 | nil => rfl
 | cons x xs ih =>
  have ih := ih fun y hy => h y (.tail _ hy)
  rw [List.map_cons]
  unfold ahead
  rw [h x (.head _), ih]
  cases g x <;> rfl
variable {f : Nat → Bool} {g : Nm → Bool} (hfg : ∀ x ∈ namesOf ps, f (sg ps x) = g x)
include D in
theorem term_of_lt {x : Nm} (hx : x ∈ namesOf ps) (h : sg ps x < (termsOf ps).length) : x ∈ termsOf ps := by
 unfold namesOf at hx
 rcases List.mem_append.mp hx with hx | hx
 ·rcases List.mem_append.mp hx with hx | hx
  ·exact hx
  ·simp at hx; subst hx; rw [sg_accept D] at h; lia
 ·have := (sg_left D (mem_leftsOf.mp hx)).1; lia
include D hfg in
theorem fst_iff {x : Nm} (hx : x ∈ namesOf ps) (b : Nat) : Fst (rulesN ps (acc ps)) (termsOf ps).length f (sg ps x) b ↔ ∃ y, RN (acc ps) g x y ∧ y ∈ termsOf ps ∧ sg ps y = b := by
 constructor
 ·intro h
  generalize hs : sg ps x = s at h
  induction h generalizing x with
  | base hlt => exact ⟨x, .refl x, term_of_lt D hx (by rw [hs]; exact hlt), hs⟩
  | step hr hu _ ih =>
   obtain ⟨p, hp, rfl⟩ := List.mem_map.mp hr
   obtain ⟨hn1, hn2⟩ := acc_name D hp
   have : x = p.1 := sg_inj hx hn1 hs
   subst this
   have ha := ahead_map (f := f) (g := g) (σ := sg ps) (xs := p.2) fun z hz => hfg z (hn2 z hz)
   rw [show ahead f (p.2.map (sg ps)) = _ from ha] at hu
   obtain ⟨u', hu', rfl⟩ := List.mem_map.mp hu
   obtain ⟨y, h1, h2, h3⟩ := ih (hn2 u' (ahead_sub hu')) rfl
   exact ⟨y, .step hp hu' h1, h2, h3⟩
 ·rintro ⟨y, hr, hy, rfl⟩
  induction hr with
  | refl => exact .base (sg_term hy)
  | @step p u y hp hu _ ih =>
   obtain ⟨hn1, hn2⟩ := acc_name D hp
   have ha := ahead_map (f := f) (g := g) (σ := sg ps) (xs := p.2) fun z hz => hfg z (hn2 z hz)
   refine .step (r := (sg ps p.1, p.2.map (sg ps))) (u := sg ps u) (rules_mem hp) ?_ (ih (hn2 u (ahead_sub hu)) hy)
   show sg ps u ∈ (ahead f (p.2.map (sg ps))).1
   rw [ha]; exact List.mem_map_of_mem hu
include D in
theorem rn_name {x y : Nm} (hx : x ∈ namesOf ps) (h : RN (acc ps) g x y) : y ∈ namesOf ps := by
 induction h with
 | refl => exact hx
 | step hp hu _ ih => exact ih ((acc_name D hp).2 _ (ahead_sub hu))
include D in
theorem term_iff {y : Nm} (hy : y ∈ namesOf ps) : y ∉ (acc ps).map (·.1) ↔ y ∈ termsOf ps := by
 constructor
 ·intro h
  unfold namesOf at hy
  rcases List.mem_append.mp hy with hy | hy
  ·rcases List.mem_append.mp hy with hy | hy
   ·exact hy
   ·simp at hy; subst hy; exact absurd (by simp) h
  ·exact absurd (List.mem_cons_of_mem _ (mem_leftsOf.mp hy)) h
 ·intro h hm
  have hlt := sg_term h
  rcases List.mem_cons.mp hm with rfl | hm
  ·rw [sg_accept D] at hlt; lia
  ·have := (sg_left D hm).1; lia
structure Beg (ps : List Pr) (μ0 : Mp) (B : List Tr) : Prop where
 dom : ∀ r d, (μ0 r d).isSome = true ↔ (r, d, Nm.nil) ∈ B
 all : ∀ r d s, (r, d, s) ∈ B → (r, d, Nm.nil) ∈ B
 bit : ∀ r d m b, μ0 r d = some m → (m.testBit b = true ↔ ∃ s, s ≠ .nil ∧ (r, d, s) ∈ B ∧ num ps s = b)
theorem rules_at {r : Nat} : (rulesN ps (acc ps))[r]? = ((acc ps)[r]?).map fun p => (sg ps p.1, p.2.map (sg ps)) := by unfold rulesN; rw [List.getElem?_map]
theorem rules_of {r : Nat} {x : Rl} (h : (rulesN ps (acc ps))[r]? = some x) : ∃ p, (acc ps)[r]? = some p ∧ x = (sg ps p.1, p.2.map (sg ps)) := by
 rw [rules_at] at h
 cases hq : (acc ps)[r]? with
 | none => rw [hq] at h; cases h
 | some p => rw [hq] at h; cases h; exact ⟨p, rfl, rfl⟩
include D in
theorem term_num {y : Nm} (h : y ∈ termsOf ps) : y ≠ .nil ∧ num ps y = sg ps y := by
 have hk := term_kind D h
 constructor
 ·rintro rfl
  rcases hk with q | q
  ·exact absurd q (by decide)
  ·unfold Let3 at q; simp at q
 ·unfold num
  rw [if_neg]
  rintro rfl
  rcases hk with q | q
  ·exact absurd q (by decide)
  ·unfold Let3 at q; simp at q
variable {μ0 : Mp} {B : List Tr} (H : Beg ps μ0 B)
include D H in
theorem r3_it {r d : Nat} {s : Nm} (h : R3 (acc ps) g B r d s) : ItR (rulesN ps (acc ps)) μ0 r d := by
 induction h with
 | base hB =>
  obtain ⟨m, hm⟩ := Option.isSome_iff_exists.mp ((H.dom _ _).mpr (H.all _ _ _ hB))
  exact .base hm
 | @step r d s p x r' p' one _ hp hx hp' hpe _ ih =>
  refine .step (x := (sg ps p.1, p.2.map (sg ps))) (u := sg ps x) (y := (sg ps p'.1, p'.2.map (sg ps))) ih (by rw [rules_at, hp]; rfl) (by show (p.2.map (sg ps))[d]? = _; rw [List.getElem?_map, hx]; rfl) (by rw [rules_at, hp']; rfl) (by rw [hpe])
include D H in
theorem it_r3 {r d : Nat} (h : ItR (rulesN ps (acc ps)) μ0 r d) : R3 (acc ps) g B r d .nil := by
 induction h with
 | base hm => exact .base ((H.dom _ _).mp (by rw [hm]; rfl))
 | step _ hx hu hy he ih =>
  obtain ⟨p, hp, rfl⟩ := rules_of hx
  obtain ⟨p', hp', rfl⟩ := rules_of hy
  rw [show ((sg ps p.1, p.2.map (sg ps)) : Rl).2 = p.2.map (sg ps) from rfl, List.getElem?_map, Option.map_eq_some_iff] at hu
  obtain ⟨x0, hx0, rfl⟩ := hu
  have h1 := acc_name D (List.mem_of_getElem? hp)
  have h2 := acc_name D (List.mem_of_getElem? hp')
  exact .step ih hp hx0 hp' (sg_inj h2.1 (h1.2 _ (List.mem_of_getElem? hx0)) he) (.inl rfl)
include D hfg H in
theorem itB_r3 {r d b : Nat} (h : ItB (rulesN ps (acc ps)) (termsOf ps).length f μ0 r d b) : ∃ s, s ≠ .nil ∧ R3 (acc ps) g B r d s ∧ num ps s = b := by
 induction h with
 | base hm hb =>
  obtain ⟨s, h1, h2, h3⟩ := (H.bit _ _ _ _ hm).mp hb
  exact ⟨s, h1, .base h2, h3⟩
 | @first r d x u r' y s b hr hx hu hy he hs hF =>
  have hR := it_r3 (g := g) D H hr
  obtain ⟨p, hp, rfl⟩ := rules_of hx
  obtain ⟨p', hp', rfl⟩ := rules_of hy
  rw [show ((sg ps p.1, p.2.map (sg ps)) : Rl).2 = p.2.map (sg ps) from rfl, List.getElem?_map, Option.map_eq_some_iff] at hu
  obtain ⟨x0, hx0, rfl⟩ := hu
  have h1 := acc_name D (List.mem_of_getElem? hp)
  have h2 := acc_name D (List.mem_of_getElem? hp')
  have ha := ahead_map (f := f) (g := g) (σ := sg ps) (xs := p.2.drop (d + 1)) fun z hz => hfg z (h1.2 z (List.mem_of_mem_drop hz))
  rw [show ((sg ps p.1, p.2.map (sg ps)) : Rl).2.drop (d + 1) = (p.2.drop (d + 1)).map (sg ps) from (List.map_drop).symm, ha] at hs
  obtain ⟨u', hu', rfl⟩ := List.mem_map.mp hs
  have hun : u' ∈ namesOf ps := h1.2 u' (List.mem_of_mem_drop (ahead_sub hu'))
  obtain ⟨y, hy1, hy2, rfl⟩ := (fst_iff D hfg hun b).mp hF
  obtain ⟨hyn, hyk⟩ := term_num D hy2
  refine ⟨y, hyn, .step hR hp hx0 hp' (sg_inj h2.1 (h1.2 _ (List.mem_of_getElem? hx0)) he) (.inr (.inr ⟨(term_iff D (rn_name D hun hy1)).mpr hy2, u', hu', hy1⟩)), hyk⟩
 | @pass r d x u r' y b _ hx hu hy he ho ih =>
  obtain ⟨s, hs1, hs2, hs3⟩ := ih
  obtain ⟨p, hp, rfl⟩ := rules_of hx
  obtain ⟨p', hp', rfl⟩ := rules_of hy
  rw [show ((sg ps p.1, p.2.map (sg ps)) : Rl).2 = p.2.map (sg ps) from rfl, List.getElem?_map, Option.map_eq_some_iff] at hu
  obtain ⟨x0, hx0, rfl⟩ := hu
  have h1 := acc_name D (List.mem_of_getElem? hp)
  have h2 := acc_name D (List.mem_of_getElem? hp')
  have ha := ahead_map (f := f) (g := g) (σ := sg ps) (xs := p.2.drop (d + 1)) fun z hz => hfg z (h1.2 z (List.mem_of_mem_drop hz))
  rw [show ((sg ps p.1, p.2.map (sg ps)) : Rl).2.drop (d + 1) = (p.2.drop (d + 1)).map (sg ps) from (List.map_drop).symm, ha] at ho
  exact ⟨s, hs1, .step hs2 hp hx0 hp' (sg_inj h2.1 (h1.2 _ (List.mem_of_getElem? hx0)) he) (.inr (.inl ⟨rfl, ho⟩)), hs3⟩
include D hfg H in
theorem r3_itB {r d : Nat} {s : Nm} (h : R3 (acc ps) g B r d s) (hs : s ≠ .nil) : ItB (rulesN ps (acc ps)) (termsOf ps).length f μ0 r d (num ps s) := by
 induction h with
 | base hB =>
  obtain ⟨m, hm⟩ := Option.isSome_iff_exists.mp ((H.dom _ _).mpr (H.all _ _ _ hB))
  exact .base hm ((H.bit _ _ _ _ hm).mpr ⟨_, hs, hB, rfl⟩)
 | @step r d s p x r' p' one hR hp hx hp' hpe ho ih =>
  have h1 := acc_name D (List.mem_of_getElem? hp)
  have hx1 : (rulesN ps (acc ps))[r]? = some (sg ps p.1, p.2.map (sg ps)) := by rw [rules_at, hp]; rfl
  have hu1 : ((sg ps p.1, p.2.map (sg ps)) : Rl).2[d]? = some (sg ps x) := by show (p.2.map (sg ps))[d]? = _; rw [List.getElem?_map, hx]; rfl
  have hy1 : (rulesN ps (acc ps))[r']? = some (sg ps p'.1, p'.2.map (sg ps)) := by rw [rules_at, hp']; rfl
  have he1 : ((sg ps p'.1, p'.2.map (sg ps)) : Rl).1 = sg ps x := by show sg ps p'.1 = _; rw [hpe]
  have ha := ahead_map (f := f) (g := g) (σ := sg ps) (xs := p.2.drop (d + 1)) fun z hz => hfg z (h1.2 z (List.mem_of_mem_drop hz))
  have hdr : ((sg ps p.1, p.2.map (sg ps)) : Rl).2.drop (d + 1) = (p.2.drop (d + 1)).map (sg ps) := (List.map_drop).symm
  rcases ho with rfl | ⟨rfl, ho⟩ | ⟨hn, u, hu, hru⟩
  ·exact absurd rfl hs
  ·exact .pass (ih hs) hx1 hu1 hy1 he1 (by rw [hdr, ha]; exact ho)
  ·have hun : u ∈ namesOf ps := h1.2 u (List.mem_of_mem_drop (ahead_sub hu))
   have hone := (term_iff D (rn_name D hun hru)).mp hn
   rw [(term_num D hone).2]
   refine .first (s := sg ps u) (r3_it D H hR) hx1 hu1 hy1 he1 (by rw [hdr, ha]; exact List.mem_map_of_mem hu) ((fst_iff D hfg hun _).mpr ⟨one, hru, hone, rfl⟩)
structure Held (ps : List Pr) (X : List Tr) (μ : Mp) : Prop where
 dom : ∀ r d, (μ r d).isSome = true ↔ ∃ s, (r, d, s) ∈ X
 bit : ∀ r d m b, μ r d = some m → (m.testBit b = true ↔ ∃ s, s ≠ .nil ∧ (r, d, s) ∈ X ∧ num ps s = b)
include D hfg H in
theorem held_ok {X : List Tr} {μ : Mp} (hX : ∀ r d s, (r, d, s) ∈ X ↔ R3 (acc ps) g B r d s) (h : Held ps X μ) : MapOk (rulesN ps (acc ps)) (termsOf ps).length f μ0 μ := by
 refine ⟨fun r d => ?_, fun r d m b hm => ?_⟩
 ·rw [h.dom]
  constructor
  ·rintro ⟨s, hs⟩; exact r3_it D H ((hX _ _ _).mp hs)
  ·intro hi; exact ⟨.nil, (hX _ _ _).mpr (it_r3 D H hi)⟩
 ·rw [h.bit r d m b hm]
  constructor
  ·rintro ⟨s, h1, h2, rfl⟩; exact r3_itB D hfg H ((hX _ _ _).mp h2) h1
  ·intro hi
   obtain ⟨s, h1, h2, h3⟩ := itB_r3 (g := g) D hfg H hi
   exact ⟨s, h1, (hX _ _ _).mpr h2, h3⟩
end
end Mine
end
section
namespace Mine
theorem dget_mapK {K : Type} [DecidableEq K] (k : K) (v : Int) {k' : K} (hk : k' ≠ k) (es : List (K × Int)) : dget (es.map fun e => if e.1 = k then (e.1, v) else e) k' = dget es k' := by
 induction es with
 | nil => rfl
 | cons e es ih =>
  unfold dget at ih ⊢
  rw [List.map_cons, List.find?_cons, List.find?_cons]
  by_cases h1 : e.1 = k
  ·rw [if_pos h1, decide_eq_false (show ¬ e.1 = k' from fun z => hk (z.symm.trans h1))]; exact ih
  ·rw [if_neg h1]
   by_cases h2 : e.1 = k'
   ·rw [decide_eq_true h2]
   ·rw [decide_eq_false h2]; exact ih
theorem dget_mapS {K : Type} [DecidableEq K] (k : K) (v : Int) (es : List (K × Int)) (h : (es.any fun e => decide (e.1 = k)) = true) : dget (es.map fun e => if e.1 = k then (e.1, v) else e) k = some v := by
 induction es with
 | nil => cases h
 | cons e es ih =>
  unfold dget at ih ⊢
  rw [List.map_cons, List.find?_cons]
  by_cases h1 : e.1 = k
  ·rw [if_pos h1, decide_eq_true h1]; rfl
  ·rw [if_neg h1, decide_eq_false h1]
   rw [List.any_cons, decide_eq_false h1, Bool.false_or] at h
   exact ih h
theorem dget_dputK {K : Type} [DecidableEq K] (es : List (K × Int)) (k : K) (v : Int) (k' : K) : dget (dput es k v) k' = if k' = k then some v else dget es k' := by
 unfold dput
 by_cases ha : (es.any fun e => decide (e.1 = k)) = true
 ·rw [if_pos ha]
  split
  ·rename_i h; subst h; exact dget_mapS _ _ _ ha
  ·rename_i h; exact dget_mapK _ _ h _
 ·rw [if_neg ha]
  unfold dget
  rw [List.find?_append]
  split
  ·rename_i h; subst h
   have hn : es.find? (fun e => decide (e.1 = k')) = none := by
    rw [List.find?_eq_none]
    intro x hx hx2
    exact ha (List.any_eq_true.mpr ⟨x, hx, hx2⟩)
   rw [hn]; simp
  ·rename_i h
   have : ([(k, v)] : List (K × Int)).find? (fun e => decide (e.1 = k')) = none := by
    rw [List.find?_eq_none]; intro x hx; simp at hx; subst hx; simpa using fun z => h z.symm
   rw [this, Option.or_none]
theorem dget_fold {K : Type} [DecidableEq K] (f : K → Int) (k : K) (xs : List K) : ∀ es : List (K × Int), dget ((xs.map fun x => (x, f x)).foldl (fun es p => dput es p.1 p.2) es) k = if k ∈ xs then some (f k) else dget es k := by
 induction xs with
 | nil => exact fun _ => (if_neg List.not_mem_nil).symm
 | cons x xs ih =>
  intro es
  rw [List.map_cons, List.foldl_cons, ih, dget_dputK]
  by_cases h1 : k ∈ xs
  ·rw [if_pos h1, if_pos (List.mem_cons_of_mem _ h1)]
  ·rw [if_neg h1]
   by_cases h2 : k = x
   ·subst h2; rw [if_pos rfl, if_pos (.head _)]
   ·rw [if_neg h2, if_neg fun z => (List.mem_cons.mp z).elim h2 h1]
theorem dput_le1 {K : Type} [DecidableEq K] (es : List (K × Int)) (k : K) (v : Int) : (dput es k v).length ≤ es.length + 1 := by
 unfold dput; split <;> simp
theorem bit_add {S x : Nat} (hx : S.testBit x = false) (b : Nat) : (2 ^ x + S).testBit b = (decide (b = x) || S.testBit b) := by
 have hr : S % 2 ^ x < 2 ^ x := Nat.mod_lt _ (Nat.two_pow_pos x)
 have e1 : S = 2 ^ x * (S / 2 ^ x) + S % 2 ^ x := (Nat.div_add_mod _ _).symm
 have e2 : 2 ^ x + S = 2 ^ x * (S / 2 ^ x + 1) + S % 2 ^ x := by rw [Nat.mul_add]; lia
 have hq : (S / 2 ^ x) % 2 = 0 := by
  rw [Nat.testBit_eq_decide_div_mod_eq] at hx
  have := of_decide_eq_false hx
  lia
 rw [e2, Nat.testBit_two_pow_mul_add _ hr]
 conv => rhs; rw [e1, Nat.testBit_two_pow_mul_add _ hr]
 generalize S / 2 ^ x = q at hq
 generalize S % 2 ^ x = r at hr
 by_cases hb : b < x
 ·rw [if_pos hb, if_pos hb, decide_eq_false (by lia), Bool.false_or]
 ·rw [if_neg hb, if_neg hb]
  by_cases hbx : b = x
  ·subst hbx
   rw [decide_eq_true rfl, Bool.true_or, Nat.sub_self, Nat.testBit_eq_decide_div_mod_eq]
   simp only [Nat.pow_zero, Nat.div_one, decide_eq_true_eq]; lia
  ·rw [decide_eq_false hbx, Bool.false_or]
   obtain ⟨i, hi⟩ : ∃ i, b - x = i + 1 := ⟨b - x - 1, by lia⟩
   rw [hi, Nat.testBit_succ, Nat.testBit_succ]
   congr 1; lia
theorem sum_bits : ∀ {xs : List Nat}, xs.Nodup → ∀ b, ((xs.map fun x => 2 ^ x).sum).testBit b = decide (b ∈ xs)
 | [], _, b => by simp
 | x :: xs, nd, b => by
  have ⟨h1, h2⟩ := List.nodup_cons.mp nd
  have ih := sum_bits h2
  rw [List.map_cons, List.sum_cons, bit_add (by rw [ih]; exact decide_eq_false h1), ih, ← Bool.decide_or]
  exact decide_eq_decide.mpr (by rw [List.mem_cons])
theorem sum_cast (f : Nm → Nat) : ∀ xs : List Nm, (xs.map fun x => ((f x : Nat) : Int)).sum = (((xs.map f).sum : Nat) : Int)
 | [] => rfl
 | x :: xs => by rw [List.map_cons, List.sum_cons, sum_cast f xs, List.map_cons, List.sum_cons]; push_cast; rfl
noncomputable def signs4 (ps : List Pr) : List Nm := [Nm.dend, Nm.a, Nm.b, Nm.c].filter fun x => decide (x ∈ namesOf ps)
noncomputable def signsOf (ps : List Pr) : List Nm := signs4 ps ++ [.mark]
section
variable {ps : List Pr} (D : Drawn ps)
theorem signs4_mem {x : Nm} : x ∈ signs4 ps ↔ (x = .dend ∨ Let3 x) ∧ x ∈ namesOf ps := by
 unfold signs4 Let3
 rw [List.mem_filter]
 simp only [List.mem_cons, List.not_mem_nil, or_false, decide_eq_true_eq]
theorem signs4_nodup : (signs4 ps).Nodup := List.Nodup.sublist List.filter_sublist (by decide)
theorem signs4_mark : Nm.mark ∉ signs4 ps := fun h => by
 have := (signs4_mem.mp h).1
 unfold Let3 at this; simp at this
theorem signs4_nil : Nm.nil ∉ signs4 ps := fun h => by
 have := (signs4_mem.mp h).1
 unfold Let3 at this; simp at this
theorem signs_nodup : (signsOf ps).Nodup := by
 unfold signsOf
 rw [List.nodup_append]
 exact ⟨signs4_nodup, by simp, fun a ha b hb => by simp at hb; subst hb; exact fun q => signs4_mark (q ▸ ha)⟩
theorem signs_len : (signsOf ps).length ≤ 5 := by
 unfold signsOf signs4
 have := List.length_filter_le (fun x => decide (x ∈ namesOf ps)) [Nm.dend, Nm.a, Nm.b, Nm.c]
 simp at this ⊢; lia
theorem signs_nil : Nm.nil ∉ signsOf ps := fun h => by
 rcases List.mem_append.mp h with h | h
 ·exact signs4_nil h
 ·simp at h
theorem num_mark : num ps .mark = (termsOf ps).length := if_pos rfl
theorem num_of {x : Nm} (h : x ∈ signs4 ps) : num ps x = sg ps x := if_neg fun z => signs4_mark (z ▸ h)
include D in
theorem signs4_term {x : Nm} (h : x ∈ signs4 ps) : x ∈ termsOf ps := by
 obtain ⟨h1, h2⟩ := signs4_mem.mp h
 unfold namesOf at h2
 rcases List.mem_append.mp h2 with h2 | h2
 ·rcases List.mem_append.mp h2 with h2 | h2
  ·exact h2
  ·simp at h2; subst h2; unfold Let3 at h1; simp at h1
 ·have := lefts_nt D h2
  unfold NT3 at this; unfold Let3 at h1
  rcases this with rfl | rfl | rfl <;> simp at h1
include D in
theorem num_lt {x : Nm} (h : x ∈ signs4 ps) : num ps x < (termsOf ps).length := by rw [num_of h]; exact sg_term (signs4_term D h)
include D in
theorem num_inj {x y : Nm} (hx : x ∈ signsOf ps) (hy : y ∈ signsOf ps) (e : num ps x = num ps y) : x = y := by
 rcases List.mem_append.mp hx with hx | hx <;> rcases List.mem_append.mp hy with hy | hy
 ·rw [num_of hx, num_of hy] at e; exact sg_inj (signs4_mem.mp hx).2 (signs4_mem.mp hy).2 e
 ·simp at hy; subst hy; have := num_lt D hx; rw [num_mark] at e; lia
 ·simp at hx; subst hx; have := num_lt D hy; rw [num_mark] at e; lia
 ·simp at hx hy; rw [hx, hy]
theorem terms_len : (termsOf ps).length ≤ 12 := nm_len (nodup_termsF (by decide))
include D in
theorem num_12 {x : Nm} (h : x ∈ signsOf ps) : num ps x ≤ 12 := by
 have := terms_len (ps := ps)
 rcases List.mem_append.mp h with h | h
 ·have := num_lt D h; lia
 ·simp at h; subst h; rw [num_mark]; lia
noncomputable def numD (ps : List Pr) : List (Nm × Int) := ((signsOf ps).map fun x => (x, ((num ps x : Nat) : Int))).foldl (fun es p => dput es p.1 p.2) []
theorem numD_get {x : Nm} (h : x ∈ signsOf ps) : dget (numD ps) x = some ((num ps x : Nat) : Int) := by
 unfold numD
 rw [dget_fold (fun x => ((num ps x : Nat) : Int)), if_pos h]
noncomputable def maskOf (ps : List Pr) (own : List Nm) : Nat := ((own.map (num ps)).map fun x => 2 ^ x).sum
include D in
theorem maskOf_bit {own : List Nm} (hs : ∀ x ∈ own, x ∈ signsOf ps) (nd : own.Nodup) (b : Nat) : (maskOf ps own).testBit b = true ↔ ∃ s ∈ own, num ps s = b := by
 unfold maskOf
 rw [sum_bits, decide_eq_true_eq, List.mem_map]
 have : ∀ {own : List Nm}, (∀ x ∈ own, x ∈ signsOf ps) → own.Nodup → (own.map (num ps)).Nodup := fun {own} => by
  induction own with
  | nil => intros; simp
  | cons x own ih =>
   intro h1 h2
   have ⟨h3, h4⟩ := List.nodup_cons.mp h2
   rw [List.map_cons, List.nodup_cons]
   refine ⟨fun h => ?_, ih (fun y hy => h1 y (.tail _ hy)) h4⟩
   obtain ⟨y, hy, e⟩ := List.mem_map.mp h
   exact h3 (num_inj D (h1 x (.head _)) (h1 y (.tail _ hy)) e.symm ▸ hy)
 exact this hs nd
theorem lt60 {m : Nat} (h : ∀ b, m.testBit b = true → b ≤ 12) : m < 2 ^ 60 := Nat.lt_pow_two_of_testBit m fun i hi => by
 cases q : m.testBit i with
 | false => rfl
 | true => have := h i q; lia
include D in
theorem maskOf_lt {own : List Nm} (hs : ∀ x ∈ own, x ∈ signsOf ps) (nd : own.Nodup) : maskOf ps own < 2 ^ 60 := lt60 fun b hb => by
 obtain ⟨s, h1, rfl⟩ := (maskOf_bit D hs nd b).mp hb
 exact num_12 D (hs s h1)
noncomputable def reBeg (r d : Nat) (B : List Tr) (own : List Nm) : List Tr := (B.filter fun t => decide (¬(t.1 = r ∧ t.2.1 = d))) ++ (own ++ [Nm.nil]).map fun s => (r, d, s)
theorem reBeg_mem {r d : Nat} {B : List Tr} {own : List Nm} {r' d' : Nat} {s : Nm} : (r', d', s) ∈ reBeg r d B own ↔ if r' = r ∧ d' = d then s ∈ own ∨ s = .nil else (r', d', s) ∈ B := by
 unfold reBeg
 rw [List.mem_append, List.mem_filter, List.mem_map]
 simp only [decide_eq_true_eq, List.mem_append, List.mem_singleton, Prod.mk.injEq]
 by_cases h : r' = r ∧ d' = d
 ·rw [if_pos h]
  obtain ⟨rfl, rfl⟩ := h
  constructor
  ·rintro (⟨_, z⟩ | ⟨x, hx, _, _, rfl⟩)
   ·exact absurd ⟨rfl, rfl⟩ z
   ·exact hx
  ·intro hx; exact .inr ⟨s, hx, rfl, rfl, rfl⟩
 ·rw [if_neg h]
  constructor
  ·rintro (⟨z, _⟩ | ⟨x, hx, h1, h2, _⟩)
   ·exact z
   ·exact absurd ⟨h1.symm, h2.symm⟩ h
  ·intro z; exact .inl ⟨z, h⟩
theorem reBeg_len (r d : Nat) (B : List Tr) (own : List Nm) : (reBeg r d B own).length ≤ B.length + own.length + 1 := by
 unfold reBeg
 have := List.length_filter_le (fun t : Tr => decide (¬(t.1 = r ∧ t.2.1 = d))) B
 simp only [List.length_append, List.length_map, List.length_singleton]; lia
include D in
theorem Beg.put {μ0 : Mp} {B : List Tr} (H : Beg ps μ0 B) (r d : Nat) {own : List Nm} (hs : ∀ x ∈ own, x ∈ signsOf ps) (nd : own.Nodup) : Beg ps (mput μ0 r d (maskOf ps own)) (reBeg r d B own) where
 dom := fun r' d' => by
  rw [reBeg_mem]
  unfold mput
  by_cases h : r' = r ∧ d' = d
  ·rw [if_pos h, if_pos h]; simp
  ·rw [if_neg h, if_neg h]; exact H.dom r' d'
 all := fun r' d' s => by
  rw [reBeg_mem, reBeg_mem]
  by_cases h : r' = r ∧ d' = d
  ·rw [if_pos h, if_pos h]; exact fun _ => .inr rfl
  ·rw [if_neg h, if_neg h]; exact H.all r' d' s
 bit := fun r' d' m b hm => by
  unfold mput at hm
  by_cases h : r' = r ∧ d' = d
  ·rw [if_pos h] at hm
   cases hm
   rw [maskOf_bit D hs nd]
   constructor
   ·rintro ⟨s, h1, h2⟩
    exact ⟨s, fun z => signs_nil (z ▸ hs s h1), reBeg_mem.mpr (by rw [if_pos h]; exact .inl h1), h2⟩
   ·rintro ⟨s, h1, h2, h3⟩
    rw [reBeg_mem, if_pos h] at h2
    exact ⟨s, h2.resolve_right h1, h3⟩
  ·rw [if_neg h] at hm
   rw [H.bit r' d' m b hm]
   constructor
   ·rintro ⟨s, h1, h2, h3⟩; exact ⟨s, h1, reBeg_mem.mpr (by rw [if_neg h]; exact h2), h3⟩
   ·rintro ⟨s, h1, h2, h3⟩; rw [reBeg_mem, if_neg h] at h2; exact ⟨s, h1, h2, h3⟩
theorem Beg.empty : Beg ps (fun _ _ => none) [] := ⟨fun r d => by simp, fun r d s h => (by cases h), fun r d m b h => (by cases h)⟩
noncomputable def bitOf (ps : List Pr) (s : Nm) : Nat := if s = .nil then 0 else 2 ^ num ps s
theorem Held.empty : Held ps [] (fun _ _ => none) := ⟨fun r d => by simp, fun r d m b h => by cases h⟩
theorem Held.put {X : List Tr} {μ : Mp} (H : Held ps X μ) (r d : Nat) (s : Nm) : Held ps (X ++ [(r, d, s)]) (mput μ r d (((μ r d).getD 0) ||| bitOf ps s)) where
 dom := fun r' d' => by
  unfold mput
  simp only [List.mem_append, List.mem_singleton, Prod.mk.injEq]
  by_cases h : r' = r ∧ d' = d
  ·obtain ⟨rfl, rfl⟩ := h
   rw [if_pos ⟨rfl, rfl⟩]
   exact ⟨fun _ => ⟨s, .inr ⟨rfl, rfl, rfl⟩⟩, fun _ => rfl⟩
  ·rw [if_neg h, H.dom]
   constructor
   ·rintro ⟨x, hx⟩; exact ⟨x, .inl hx⟩
   ·rintro ⟨x, hx | ⟨h1, h2, _⟩⟩
    ·exact ⟨x, hx⟩
    ·exact absurd ⟨h1, h2⟩ h
 bit := fun r' d' m b hm => by
  unfold mput at hm
  simp only [List.mem_append, List.mem_singleton, Prod.mk.injEq]
  have hbit : (bitOf ps s).testBit b = true ↔ s ≠ .nil ∧ num ps s = b := by
   unfold bitOf
   by_cases hs : s = .nil
   ·rw [if_pos hs]; simp [hs]
   ·rw [if_neg hs, Nat.testBit_two_pow]; simp [hs]
  by_cases h : r' = r ∧ d' = d
  ·obtain ⟨rfl, rfl⟩ := h
   rw [if_pos ⟨rfl, rfl⟩] at hm
   cases hm
   rw [Nat.testBit_or, Bool.or_eq_true, hbit]
   have hold : ((μ r' d').getD 0).testBit b = true ↔ ∃ s, s ≠ Nm.nil ∧ (r', d', s) ∈ X ∧ num ps s = b := by
    cases hq : μ r' d' with
    | some m => exact H.bit r' d' m b hq
    | none =>
     simp only [Option.getD_none, Nat.zero_testBit, Bool.false_eq_true, false_iff]
     rintro ⟨x, _, hx, _⟩
     have := (H.dom r' d').mpr ⟨x, hx⟩
     rw [hq] at this; cases this
   rw [hold]
   constructor
   ·rintro (⟨x, h1, h2, h3⟩ | ⟨h1, h2⟩)
    ·exact ⟨x, h1, .inl h2, h3⟩
    ·exact ⟨s, h1, .inr ⟨rfl, rfl, rfl⟩, h2⟩
   ·rintro ⟨x, h1, h2 | ⟨_, _, rfl⟩, h3⟩
    ·exact .inl ⟨x, h1, h2, h3⟩
    ·exact .inr ⟨h1, h3⟩
  ·rw [if_neg h] at hm
   rw [H.bit r' d' m b hm]
   constructor
   ·rintro ⟨x, h1, h2, h3⟩; exact ⟨x, h1, .inl h2, h3⟩
   ·rintro ⟨x, h1, h2 | ⟨e1, e2, _⟩, h3⟩
    ·exact ⟨x, h1, h2, h3⟩
    ·exact absurd ⟨e1, e2⟩ h
include D in
theorem part_sign {p : Pr} {y : Nm} (hp : p ∈ acc ps) (hy : y ∈ p.2) (hn : y ∉ (acc ps).map (·.1)) : y ∈ signs4 ps := by
 refine signs4_mem.mpr ⟨?_, (acc_name D hp).2 y hy⟩
 rcases List.mem_cons.mp hp with rfl | hp
 ·simp only [List.mem_cons, List.not_mem_nil, or_false] at hy
  rcases hy with rfl | rfl
  ·exfalso
   obtain ⟨qs, rs, e⟩ := D.head
   exact hn (by rw [e]; simp)
  ·exact .inl rfl
 ·rcases D.part p hp y hy with h | h
  ·exact .inr h
  ·exact absurd (List.mem_cons_of_mem _ h) hn
theorem rn_part {g : Nm → Bool} {u y : Nm} (h : RN (acc ps) g u y) (hu : ∃ p ∈ acc ps, u ∈ p.2) : ∃ p ∈ acc ps, y ∈ p.2 := by
 induction h with
 | refl => exact hu
 | @step p u y hp hv _ ih => exact ih ⟨p, hp, ahead_sub hv⟩
include D in
theorem r3_sign {g : Nm → Bool} {B : List Tr} (hB : ∀ r d s, (r, d, s) ∈ B → s ≠ .nil → s ∈ signsOf ps) {r d : Nat} {s : Nm} (h : R3 (acc ps) g B r d s) (hs : s ≠ .nil) : s ∈ signsOf ps := by
 induction h with
 | base h => exact hB _ _ _ h hs
 | @step r d s p x r' p' one hR hp hx hp' hpe ho ih =>
  rcases ho with rfl | ⟨rfl, _⟩ | ⟨hn, u, hu, hru⟩
  ·exact absurd rfl hs
  ·exact ih hs
  ·obtain ⟨p2, hp2, hy⟩ := rn_part hru ⟨p, List.mem_of_getElem? hp, List.mem_of_mem_drop (ahead_sub hu)⟩
   exact List.mem_append_left _ (part_sign D hp2 hy hn)
theorem NulL.uniq {rs : List Rl} {ns : Nat} {f f' : List Bool} (a : NulL rs ns f) (b : NulL rs ns f') : f = f' := by
 apply List.ext_getElem?
 intro i
 have h1 := (a.2 i).trans (b.2 i).symm
 have ha := a.1
 have hb := b.1
 by_cases hi : i < ns
 ·rw [List.getElem?_eq_getElem (by lia), List.getElem?_eq_getElem (by lia)] at h1 ⊢
  simp only [Option.some.injEq] at h1 ⊢
  cases q1 : f[i] <;> cases q2 : f'[i] <;> simp_all
 ·rw [List.getElem?_eq_none (by lia), List.getElem?_eq_none (by lia)]
end
end Mine
end
section
namespace Mine
set_option genInjectivity false in
structure LL where
 (p qd g pl el sl nl : Nat)
 L : Loc
 ks : List Nat
 ps : List Pr
 emp : List Nm
structure LW (h : MH) (z : LL) : Prop where
 wf : Wf h
 pen : PenOk h z.p z.qd
 D : Drawn z.ps
 G : GAt h z.g z.L (namesOf z.ps) (termsOf z.ps).length (rulesN z.ps (acc z.ps))
 P : PAt h z.pl (acc z.ps) z.ks
 ok : EmpOk z.ps z.emp
 emp : h.get z.el = some (.list (vStrs z.emp))
 sgn : h.get z.sl = some (.list (vStrs (signsOf z.ps)))
 num : h.get z.nl = some (.sdict (numD z.ps))
 apart : ∀ l, PenW z.p z.qd l → (l ≠ z.L.ln ∧ l ≠ z.L.lr ∧ l ≠ z.L.lb ∧ l ≠ z.L.lo ∧ l ≠ z.L.lw ∧ l ∉ z.L.bl) ∧ l ≠ z.pl ∧ l ∉ z.ks ∧ l ≠ z.el ∧ l ≠ z.sl ∧ l ≠ z.nl
theorem LW.ke {h h' : MH} {z : LL} (W : LW h z) (k : Ke (PenW z.p z.qd) h h') (S : PenOk h' z.p z.qd) : LW h' z where
 wf := k.wf
 pen := S
 D := W.D
 G := W.G.keep k fun l o hl hw => by
  obtain ⟨ms, c, d, h1, h2, _⟩ := W.pen.ex
  rcases hw with rfl | rfl
  ·rw [h1] at hl; cases hl; exact ⟨_, rfl, (W.apart _ (.inl rfl)).1⟩
  ·rw [h2] at hl; cases hl; exact ⟨_, rfl, (W.apart _ (.inr rfl)).1⟩
 P := W.P.ke k (fun hw => (W.apart _ hw).2.1 rfl) fun x hx hw => (W.apart _ hw).2.2.1 hx
 ok := W.ok
 emp := k.keep _ _ W.emp fun hw => (W.apart _ hw).2.2.2.1 rfl
 sgn := k.keep _ _ W.sgn fun hw => (W.apart _ hw).2.2.2.2.1 rfl
 num := k.keep _ _ W.num fun hw => (W.apart _ hw).2.2.2.2.2 rfl
 apart := W.apart
theorem LW.kp {h h' : MH} {z : LL} (W : LW h z) (k : Kp h h') : LW h' z := W.ke k.up (W.pen.ke k)
noncomputable def lwF (z : LL) : Env := upd (upd (upd (upd (upd (upd env0 .number (.loc z.nl)) .signs (.loc z.sl)) .empty (.loc z.el)) .grammar (.loc z.g)) .pairs (.loc z.pl)) .pen (.loc z.p)
theorem upd_ne {e : Env} {x y : Vr} {v : V} (h : y ≠ x) : upd e x v y = e y := if_neg h
theorem upd_eq {e : Env} {x : Vr} {v : V} : upd e x v x = some v := if_pos rfl
section
variable {h : MH} {n : Nat} {C : CS} {z : LL} {e : Env} {Q : V → MH → Prop}
theorem sc_ite {Q : Fl → Env → MH → Prop} {ss a b : Ss} {t : T} (q : wT C t e h fun r h1 => if r = true then wSs C a e h1 (fun fl e' h' => match fl with | .next => wSs C ss e' h' Q | fl => Q fl e' h') else wSs C b e h1 (fun fl e' h' => match fl with | .next => wSs C ss e' h' Q | fl => Q fl e' h')) :
  wSs C (.cons (.ite t a b) ss) e h Q := by
 dsimp only [UF,UG,YA,YB,YC,YD,YE,YF,YG,YH,YI,YJ,YK,YL]; exact q
theorem q_draw {p qd m : Nat} {X : E} (w : Wf h) (S : PenOk h p qd) (hm : 0 < m) (hm2 : m < 2 ^ 20) (hp : e .pen = some (.loc p)) (hX : ∀ P : V → MH → Prop, P (.int (m : Int)) h → wE (CL prog (n + 1)) X e h P)
  (q : ∀ h' r, Ke (PenW p qd) h h' → PenOk h' p qd → r < m → Q (.int (r : Int)) h') : wE (CL prog (n + 1)) (.call .law_draw (.cons (.var .pen) (.cons X .nil))) e h Q := by
 refine q_call ?_
 dsimp only [UA,UB,EA,EB,EC,ED,EE,EF,EG,EH,EI,EJ,EK,EL,EM,EN,EO,EP,EQ,ER,ES,ET,EU,EV,EW,EX,EY,EZ,Ea,Eb,Ec]
 exact ⟨_, hp, hX _ (sp_draw w S hm hm2 q)⟩
theorem q_own (W : LW h z) (he : SubE (lwF z) e) (q : ∀ h' own, Ke (PenW z.p z.qd) h h' → PenOk h' z.p z.qd → (∀ x ∈ own, x ∈ signsOf z.ps) → own.Nodup → own.length ≤ 5 → Q (.loc h'.nxt) (h'.new (.list (vStrs own)))) :
  wE (CL prog (n + 1)) (.comp (.var .sign) [.sign] (.seq (.var .signs)) (.cmp .eq (.call .law_draw (.cons (.var .pen) (.cons (.int 3) .nil))) (.int 0))) e h Q := by
 refine q_comp (q_seq (r_var (he .signs _ rfl) ?_))
 refine for_seq (vs := vStrs (signsOf z.ps)) (fun j acc h2 => Ke (PenW z.p z.qd) h h2 ∧ PenOk h2 z.p z.qd ∧ ∃ own : List Nm, acc = vStrs own ∧ own.Sublist ((signsOf z.ps).take j)) ?_ ?_ ?_ ⟨Ke.refl W.wf, W.pen, [], rfl, List.nil_sublist _⟩
 ·rintro j acc h2 ⟨k, S, _⟩
  simp only [items, (W.ke k S).sgn]
 ·rintro j acc h2 v hv ⟨k, S, own, rfl, hsub⟩
  obtain ⟨x, hx, rfl⟩ : ∃ x, (signsOf z.ps)[j]? = some x ∧ V.str x = v := map_at hv
  refine ⟨_, rfl, fun K hK => ?_⟩
  have htk : (signsOf z.ps).take (j + 1) = (signsOf z.ps).take j ++ [x] := by rw [List.take_add_one, hx]; rfl
  have hl := signs_len (ps := z.ps)
  have hol : own.length ≤ 5 := Nat.le_trans hsub.length_le (Nat.le_trans (List.length_take_le' _ _) hl)
  dsimp only [JA,JB,JC,JD,JE,JF,JG]
  refine q_draw (m := 3) k.wf S (by lia) (by lia) ((he.upd (y := .sign) (w := .str x) rfl) .pen _ rfl) (fun P q => q) fun h3 r k3 S3 hr => ?_
  dsimp only [EA,EB,EC,ED,EE,EF,EG,EH,EI,EJ,EK,EL,EM,EN,EO,EP,EQ,ER,ES,ET,EU,EV,EW,EX,EY,EZ,Ea,Eb,Ec]
  refine ⟨decide ((r : Int) = 0), rfl, ?_⟩
  dsimp only
  by_cases h0 : (r : Int) = 0
  ·rw [if_pos (decide_eq_true h0)]
   refine ⟨_, upd_eq, by rw [vStrs_length]; simp only [room]; lia, hK _ _ ⟨k.trans k3, S3, own ++ [x], by simp [vStrs], ?_⟩⟩
   rw [htk]; exact hsub.append (List.Sublist.refl _)
  ·rw [if_neg (by rw [decide_eq_false h0]; simp)]
   refine hK _ _ ⟨k.trans k3, S3, own, rfl, ?_⟩
   rw [htk]; exact hsub.trans (List.sublist_append_left _ _)
 ·rintro acc h2 ⟨k, S, own, rfl, hsub⟩
  rw [vStrs_length, List.take_length] at hsub
  exact q h2 own k S (fun x hx => hsub.subset hx) (signs_nodup.sublist hsub) (Nat.le_trans hsub.length_le signs_len)
theorem q_pow {s : Nm} (W : LW h z) (he : SubE (lwF z) e) (hse : e .sign = some (.str s)) (hs : s ∈ signsOf z.ps) (q : Q (.int ((2 ^ num z.ps s : Nat) : Int)) h) : wE C (.bin .pow (.int 2) (.sub (.var .number) (.var .sign))) e h Q := by
 dsimp only [EA,EB,EC,ED,EE,EF,EG,EH,EI,EJ,EK,EL,EM,EN,EO,EP,EQ,ER,ES,ET,EU,EV,EW,EX,EY,EZ,Ea,Eb,Ec]
 refine ⟨_, he .number _ rfl, _, hse, .inr (.inr ⟨_, s, _, ⟨W.num, rfl, numD_get hs⟩, ?_⟩)⟩
 have := num_12 W.D hs
 exact ⟨num z.ps s, ⟨rfl, rfl, by lia⟩, q⟩
theorem q_sum {ol : Nat} {own : List Nm} (W : LW h z) (he : SubE (lwF z) e) (hoe : e .own = some (.loc ol)) (ho : h.get ol = some (.list (vStrs own))) (hs : ∀ x ∈ own, x ∈ signsOf z.ps) (hl : own.length ≤ 5)
  (q : ∀ h', Kp h h' → Q (.int ((maskOf z.ps own : Nat) : Int)) h') : wE C (.b1 .sum (.comp (.bin .pow (.int 2) (.sub (.var .number) (.var .sign))) [.sign] (.seq (.var .own)) .tt)) e h Q := by
 refine q_b1 (q_comp (q_seq (r_var hoe ?_)))
 refine for_seq (vs := vStrs own) (fun j acc h2 => Kp h h2 ∧ acc = (own.take j).map fun s => V.int ((2 ^ num z.ps s : Nat) : Int)) ?_ ?_ ?_ ⟨Ke.refl W.wf, rfl⟩
 ·rintro j acc h2 ⟨k, _⟩
  simp only [items, k.get ho]
 ·rintro j acc h2 v hv ⟨k, rfl⟩
  obtain ⟨x, hx, rfl⟩ : ∃ x, own[j]? = some x ∧ V.str x = v := map_at hv
  refine ⟨_, rfl, fun K hK => ?_⟩
  simp only [JA,JB,JC,JD,JE,JF,JG,if_true]
  refine q_pow (W.kp k) (he.upd (y := .sign) (w := .str x) rfl) upd_eq (hs x (List.mem_of_getElem? hx)) ⟨?_, hK _ _ ⟨k, ?_⟩⟩
  ·have := List.length_take_le' j own
   rw [List.length_map]; simp only [room]; lia
  ·rw [List.take_add_one, hx, List.map_append]; rfl
 ·rintro acc h2 ⟨k, rfl⟩
  rw [vStrs_length, List.take_length]
  refine ⟨h2.nxt, _, own.map fun s => ((2 ^ num z.ps s : Nat) : Int), ⟨rfl, get_new .., by rw [List.map_map]; rfl, by rw [List.length_map]; lia⟩, ?_⟩
  rw [sum_cast (fun s => 2 ^ num z.ps s)]
  have : (own.map fun s => 2 ^ num z.ps s).sum = maskOf z.ps own := by unfold maskOf; rw [List.map_map]; rfl
  rw [this]
  exact q _ (k.new _)
theorem q_begun {ol gl r d : Nat} {own : List Nm} {B : List Tr} (w : Wf h) (hre : e .rule = some (.int (r : Int))) (hde : e .dot = some (.int (d : Int))) (hoe : e .own = some (.loc ol)) (hge : e .begun = some (.loc gl))
  (ho : h.get ol = some (.list (vStrs own))) (hB : h.get gl = some (.list (B.map vTr))) (hl : own.length ≤ 5) (hBl : B.length ≤ 200)
  (q : ∀ h' N, Kp h h' → h.nxt ≤ N → h'.get N = some (.list ((reBeg r d B own).map vTr)) → Q (.loc N) h') :
  wE C (.bin .add (.comp (.var .one) [.one] (.seq (.var .begun)) (.cmp .ne (.slTo (.var .one) (.int 2)) (.tup (.cons (.var .rule) (.cons (.var .dot) .nil))))) (.comp (.tup (.cons (.var .rule) (.cons (.var .dot) (.cons (.var .sign) .nil)))) [.sign] (.seq (.bin .add (.var .own) (.list (.cons (.str .nil) .nil)))) .tt)) e h Q := by
 refine q_bin (q_comp (q_seq (r_var hge ?_)))
 refine for_seq (vs := B.map vTr) (fun j acc h2 => h2 = h ∧ acc = ((B.take j).filter fun t => decide (¬(t.1 = r ∧ t.2.1 = d))).map vTr) ?_ ?_ ?_ ⟨rfl, rfl⟩
 ·rintro j acc h2 ⟨rfl, _⟩
  simp only [items, hB]
 ·rintro j acc h2 v hv ⟨rfl, rfl⟩
  obtain ⟨t, ht, rfl⟩ : ∃ t, B[j]? = some t ∧ vTr t = v := map_at hv
  refine ⟨_, rfl, fun K hK => ?_⟩
  have htk : B.take (j + 1) = B.take j ++ [t] := by rw [List.take_add_one, ht]; rfl
  dsimp only [JA,JB,JC,JD,JE,JF,JG,EA,EB,EC,ED,EE,EF,EG,EH,EI,EJ,EK,EL,EM,EN,EO,EP,EQ,ER,ES,ET,EU,EV,EW,EX,EY,EZ,Ea,Eb,Ec,UA,UB]
  refine ⟨_, upd_eq, ⟨by lia, by simp, by simp [room]⟩, _, (upd_ne (by decide)).trans hre, _, (upd_ne (by decide)).trans hde, [.int (r : Int), .int (d : Int)], ⟨rfl, by simp⟩, ?_⟩
  refine ⟨[(t.1 : Int), (t.2.1 : Int)], [(r : Int), (d : Int)], ⟨rfl, rfl⟩, ?_⟩
  have hdec : (!decide (([(t.1 : Int), (t.2.1 : Int)] : List Int) = [(r : Int), (d : Int)])) = decide (¬(t.1 = r ∧ t.2.1 = d)) := by
   rw [← decide_not]
   refine decide_eq_decide.mpr (not_congr ?_)
   simp only [List.cons.injEq, and_true, Int.natCast_inj]
  rw [hdec]
  dsimp only
  have hfl := List.length_filter_le (fun t : Tr => decide (¬(t.1 = r ∧ t.2.1 = d))) (B.take j)
  have hjl := List.length_take_le' j B
  by_cases hd : ¬(t.1 = r ∧ t.2.1 = d)
  ·rw [if_pos (decide_eq_true hd)]
   refine ⟨_, upd_eq, by rw [List.length_map]; simp only [room]; lia, hK _ _ ⟨rfl, ?_⟩⟩
   rw [htk, List.filter_append, List.map_append]
   congr 1
   rw [List.filter_cons, if_pos (decide_eq_true hd)]; rfl
  ·rw [if_neg (by rw [decide_eq_false hd]; simp)]
   refine hK _ _ ⟨rfl, ?_⟩
   rw [htk, List.filter_append, List.map_append]
   rw [List.filter_cons, if_neg (by rw [decide_eq_false hd]; simp)]; simp
 ·rintro acc h2 ⟨rfl, rfl⟩
  rw [List.length_map, List.take_length]
  have hfl := List.length_filter_le (fun t : Tr => decide (¬(t.1 = r ∧ t.2.1 = d))) B
  generalize hF : (B.filter fun t : Tr => decide (¬(t.1 = r ∧ t.2.1 = d))) = F at hfl ⊢
  have k1 : Kp h2 (h2.new (.list (F.map vTr))) := (Ke.refl w).new _
  refine q_comp (q_seq (q_bin (r_var hoe ?_)))
  dsimp only [EA,EB,EC,ED,EE,EF,EG,EH,EI,EJ,EK,EL,EM,EN,EO,EP,EQ,ER,ES,ET,EU,EV,EW,EX,EY,EZ,Ea,Eb,Ec,UA,UB]
  have k2 := k1.new (.list [V.str .nil])
  refine ⟨by simp, vStrs own, [V.str .nil], ⟨Kp.get k2 ho, get_new .., by rw [vStrs_length]; simp only [room, List.length_cons, List.length_nil]; lia⟩, ?_⟩
  have k3 := k2.new (.list (vStrs own ++ [V.str .nil]))
  have hst : ∀ hh : MH, Kp h2 hh → hh = ((h2.new (.list (F.map vTr))).new (.list [V.str .nil])).new (.list (vStrs own ++ [V.str .nil])) → hh.get h2.nxt = some (.list (F.map vTr)) ∧ hh.get ((h2.new (.list (F.map vTr))).new (.list [V.str .nil])).nxt = some (.list (vStrs (own ++ [Nm.nil]))) := fun hh _ e => by
   subst e
   exact ⟨get_new_of k2.wf _ (get_new_of k1.wf _ (get_new ..)), (get_new ..).trans (by simp [vStrs])⟩
  obtain ⟨g1, g2⟩ := hst _ k3 rfl
  generalize ((h2.new (.list (F.map vTr))).new (.list [V.str .nil])).new (.list (vStrs own ++ [V.str .nil])) = h3 at k3 g1 g2 ⊢
  generalize ((h2.new (.list (F.map vTr))).new (.list [V.str .nil])).nxt = n3 at g2 ⊢
  clear hst k2
  refine for_seq (vs := vStrs (own ++ [Nm.nil])) (fun j acc h4 => h4 = h3 ∧ acc = (((own ++ [Nm.nil]).take j).map fun s => (r, d, s)).map vTr) ?_ ?_ ?_ ⟨rfl, rfl⟩
  ·rintro j acc h4 ⟨rfl, _⟩
   simp only [items, g2]
  ·rintro j acc h4 v hv ⟨rfl, rfl⟩
   obtain ⟨x, hx, rfl⟩ : ∃ x, (own ++ [Nm.nil])[j]? = some x ∧ V.str x = v := map_at hv
   refine ⟨_, rfl, fun K hK => ?_⟩
   simp only [JA,JB,JC,JD,JE,JF,JG,if_true]
   have hr2 : upd e .sign (V.str x) .rule = some (.int (r : Int)) := (upd_ne (by decide)).trans hre
   have hd2 : upd e .sign (V.str x) .dot = some (.int (d : Int)) := (upd_ne (by decide)).trans hde
   refine ⟨_, hr2, _, hd2, _, upd_eq, [.int (r : Int), .int (d : Int), .str x], ⟨rfl, by simp⟩, ?_, hK _ _ ⟨rfl, ?_⟩⟩
   ·have := List.length_take_le' j (own ++ [Nm.nil])
    rw [List.length_append] at this
    simp only [List.length_map, room, List.length_cons, List.length_nil] at this ⊢; lia
   ·rw [List.take_add_one, hx, List.map_append, List.map_append]; rfl
  ·rintro acc h4 ⟨rfl, rfl⟩
   rw [vStrs_length, List.take_length]
   have k4 := k3.new (.list (((own ++ [Nm.nil]).map fun s => (r, d, s)).map vTr))
   refine ⟨F.map vTr, _, ⟨get_new_of k3.wf _ g1, get_new .., ?_⟩, ?_⟩
   ·simp only [List.length_map, List.length_append, List.length_cons, List.length_nil, room]; lia
   ·refine q _ _ (k4.new _) k4.le ?_
    refine (get_new ..).trans ?_
    unfold reBeg
    rw [hF]; simp only [List.map_append]
end
end Mine
end
section
namespace Mine
noncomputable def sdrop : Nat → Ss → Ss
 | 0, s => s
 | _ + 1, .nil => .nil
 | n + 1, .cons _ s => sdrop n s
noncomputable def forBody : Ss → Ss
 | .cons (.for_ _ _ b) _ => b
 | _ => .nil
noncomputable def lapBody : Ss := forBody (sdrop 8 body_law)
noncomputable def turnBody : Ss := forBody (sdrop 1 lapBody)
noncomputable def heldBody : Ss := forBody (sdrop 3 lapBody)
structure BgH (z : LL) (h : MH) (bl gl k : Nat) (es : List (Int × Int)) (μ0 : Mp) (B : List Tr) : Prop where
 hb : h.get bl = some (.dict es)
 hg : h.get gl = some (.list (B.map vTr))
 beg : Beg z.ps μ0 B
 rep : DRep (rulesN z.ps (acc z.ps)) es μ0
 el : es.length ≤ k
 Bl : B.length ≤ 6 * k
 m60 : ∀ r d m, μ0 r d = some m → m < 2 ^ 60
 val : ∀ t ∈ B, ∃ p, (acc z.ps)[t.1]? = some p ∧ t.2.1 ≤ p.2.length
 sig : ∀ r d s, (r, d, s) ∈ B → s ≠ .nil → s ∈ signsOf z.ps
theorem BgH.ke {W : Nat → Prop} {z : LL} {h h' : MH} {bl gl k : Nat} {es : List (Int × Int)} {μ0 : Mp} {B : List Tr} (T : BgH z h bl gl k es μ0 B) (ke : Ke W h h') (h1 : ¬ W bl) (h2 : ¬ W gl) : BgH z h' bl gl k es μ0 B :=
 { T with hb := ke.keep _ _ T.hb h1, hg := ke.keep _ _ T.hg h2 }
inductive BgE (z : LL) (h0 h : MH) (e : Env) (bl k : Nat) : Prop
 | mk (gl : Nat) (es : List (Int × Int)) (μ0 : Mp) (B : List Tr) (hg : e .begun = some (.loc gl)) (hl : h0.nxt ≤ gl) (G : BgH z h bl gl k es μ0 B)
structure TuH (z : LL) (h0 h : MH) (e : Env) (bl k : Nat) : Prop where
 he : SubE (lwF z) e
 hbe : e .begins = some (.loc bl)
 ke : Ke (PenW z.p z.qd) h0 h
 S : PenOk h z.p z.qd
 nb : h0.nxt ≤ bl
 bg : BgE z h0 h e bl k
theorem TuH.var {z : LL} {h0 h : MH} {e : Env} {bl k : Nat} (T : TuH z h0 h e bl k) {x : Vr} {v : V} (h1 : lwF z x = none) (h2 : x ≠ .begins) (h3 : x ≠ .begun) : TuH z h0 h (upd e x v) bl k :=
 ⟨T.he.upd h1, (upd_ne (Ne.symm h2)).trans T.hbe, T.ke, T.S, T.nb, let ⟨gl, es, μ0, B, a, b, c⟩ := T.bg; ⟨gl, es, μ0, B, (upd_ne (Ne.symm h3)).trans a, b, c⟩⟩
theorem pen_lt {h : MH} {z : LL} (W : LW h z) : ∀ l, PenW z.p z.qd l → l < h.nxt := fun l hw => by
 obtain ⟨ms, c, d, h1, h2, _⟩ := W.pen.ex
 rcases hw with rfl | rfl
 ·exact W.wf.lt h1
 ·exact W.wf.lt h2
section
variable {h h0 : MH} {n : Nat} {C : CS} {z : LL} {e : Env}
theorem q_item {r d : Nat} {p : Pr} {Q : V → MH → Prop} (W : LW h z) (he : SubE (lwF z) e) (hr : e .rule = some (.int (r : Int))) (hd : e .dot = some (.int (d : Int))) (hp : (acc z.ps)[r]? = some p)
  (q : Q (.int ((item (rulesN z.ps (acc z.ps)) r d : Nat) : Int)) h) : wE (CL prog (n + 1)) (.meth .gitem (.var .grammar) (.cons (.var .rule) (.cons (.var .dot) .nil))) e h Q := by
 dsimp only [EA,EB,EC,ED,EE,EF,EG,EH,EI,EJ,EK,EL,EM,EN,EO,EP,EQ,ER,ES,ET,EU,EV,EW,EX,EY,EZ,Ea,Eb,Ec,UA,UB]
 exact ⟨_, he .grammar _ rfl, ⟨_, _, rfl, W.G.at_, W.G.nonum⟩, _, hr, _, hd, sp_gitem W.G (by rw [rules_at, hp]; rfl) q⟩
theorem vp_of {r d : Nat} {p : Pr} {ps : List Pr} (hp : (acc ps)[r]? = some p) (hd : d ≤ p.2.length) : VP (rulesN ps (acc ps)) r d := ⟨(sg ps p.1, p.2.map (sg ps)), by rw [rules_at, hp]; rfl, by simpa using hd⟩
theorem q_turn {bl k : Nat} {Qr : V → Env → MH → Prop} {K : Env → MH → Prop} (W0 : LW h0 z) (T : TuH z h0 h e bl k) (hk : k < 30) (q : ∀ e' h', TuH z h0 h' e' bl (k + 1) → K e' h') :
  wSs (CL prog (n + 1)) turnBody e h (fun fl e' h' => match fl with | .ret v => Qr v e' h' | _ => K e' h') := by
 have hpen := pen_lt W0
 have W : LW h z := W0.ke T.ke T.S
 have hDl := W.D.len
 show wSs _ (.cons (.assign .rule _) _) e h _
 refine sc_assign ?_
 refine q_draw (m := (acc z.ps).length) T.ke.wf T.S (by simp) (by simp; lia) (T.he .pen _ rfl) (fun P q => q_b1 (r_var (T.he .pairs _ rfl) (r_lenL W.P.at_ (by rw [W.P.zlen]; simp [room]; lia) (by rw [W.P.zlen]; exact q)))) fun h1 r k1 S1 hr => ?_
 have T1 : TuH z h0 h1 (upd e .rule (.int (r : Int))) bl k := by
  refine TuH.var ?_ rfl (by decide) (by decide)
  obtain ⟨gl, es, μ0, B, a, b, c⟩ := T.bg
  refine ⟨T.he, T.hbe, T.ke.trans k1, S1, T.nb, gl, es, μ0, B, a, b, c.ke k1 (fun hw => ?_) fun hw => ?_⟩
  ·have := hpen _ hw; have := T.nb; lia
  ·have := hpen _ hw; lia
 have W1 : LW h1 z := W0.ke T1.ke T1.S
 have hre1 : upd e .rule (.int (r : Int)) .rule = some (.int (r : Int)) := upd_eq
 clear T W
 generalize upd e .rule (.int (r : Int)) = e1 at T1 hre1
 have hp : (acc z.ps)[r]? = some (acc z.ps)[r] := List.getElem?_eq_getElem hr
 generalize (acc z.ps)[r] = p at hp
 have hpl : p.2.length ≤ 8 := by
  rcases List.mem_cons.mp (List.mem_of_getElem? hp) with rfl | hm
  ·simp
  ·exact W1.D.plen p hm
 obtain ⟨kk, hkk, hzz, hpart⟩ := W1.P.put hp
 refine sc_assign ?_
 refine q_draw (m := p.2.length + 1) T1.ke.wf T1.S (by lia) (by lia) (T1.he .pen _ rfl) (fun P q => ?_) fun h2 d k2 S2 hd => ?_
 ·dsimp only [EA,EB,EC,ED,EE,EF,EG,EH,EI,EJ,EK,EL,EM,EN,EO,EP,EQ,ER,ES,ET,EU,EV,EW,EX,EY,EZ,Ea,Eb,Ec]
  refine ⟨_, T1.he .pairs _ rfl, _, hre1, r_get W1.P.at_ (by have : (acc z.ps).length ≤ 13 := (by simp; lia); lia) hzz (r_gett (n := 1) (w := .loc kk) (by lia) rfl (r_lenL hpart (by rw [vStrs_length]; simp only [room]; lia) ?_))⟩
  rw [vStrs_length]
  exact q
 have T2 : TuH z h0 h2 (upd e1 .dot (.int (d : Int))) bl k := by
  refine TuH.var ?_ rfl (by decide) (by decide)
  obtain ⟨gl, es, μ0, B, a, b, c⟩ := T1.bg
  refine ⟨T1.he, T1.hbe, T1.ke.trans k2, S2, T1.nb, gl, es, μ0, B, a, b, c.ke k2 (fun hw => ?_) fun hw => ?_⟩
  ·have := hpen _ hw; have := T1.nb; lia
  ·have := hpen _ hw; lia
 have W2 : LW h2 z := W0.ke T2.ke T2.S
 have hde2 : upd e1 .dot (.int (d : Int)) .dot = some (.int (d : Int)) := upd_eq
 have hre2 : upd e1 .dot (.int (d : Int)) .rule = some (.int (r : Int)) := (upd_ne (by decide)).trans hre1
 clear T1 W1 hpart hzz
 generalize upd e1 .dot (.int (d : Int)) = e2 at T2 hre2 hde2
 refine sc_assign ?_
 refine q_own W2 T2.he fun h3 own k3 S3 hos hnd hol => ?_
 obtain ⟨gl, es, μ0, B, hge, hgl, BG⟩ := T2.bg
 have hb2 := W2.wf.lt BG.hb
 have BG3 : BgH z h3 bl gl k es μ0 B := BG.ke k3 (fun hw => by have := hpen _ hw; have := T2.nb; lia) fun hw => by have := hpen _ hw; lia
 have k4 : Ke (PenW z.p z.qd) h0 (h3.new (.list (vStrs own))) := (T2.ke.trans k3).new _
 have kp4 : Kp h3 (h3.new (.list (vStrs own))) := (Ke.refl k3.wf).new _
 have S4 := S3.ke kp4
 have BG4 : BgH z (h3.new (.list (vStrs own))) bl gl k es μ0 B := BG3.ke kp4 (fun x => x) fun x => x
 have W4 : LW (h3.new (.list (vStrs own))) z := W0.ke k4 S4
 have hoe : upd e2 .own (.loc h3.nxt) .own = some (.loc h3.nxt) := upd_eq
 have hob : h3.nxt ≠ bl := Nat.ne_of_gt (k3.wf.lt BG3.hb)
 have ho : (h3.new (.list (vStrs own))).get h3.nxt = some (.list (vStrs own)) := get_new ..
 have he3 : SubE (lwF z) (upd e2 .own (.loc h3.nxt)) := T2.he.upd rfl
 have hre3 : upd e2 .own (.loc h3.nxt) .rule = some (.int (r : Int)) := (upd_ne (by decide)).trans hre2
 have hde3 : upd e2 .own (.loc h3.nxt) .dot = some (.int (d : Int)) := (upd_ne (by decide)).trans hde2
 have hbe3 : upd e2 .own (.loc h3.nxt) .begins = some (.loc bl) := (upd_ne (by decide)).trans T2.hbe
 have hge3 : upd e2 .own (.loc h3.nxt) .begun = some (.loc gl) := (upd_ne (by decide)).trans hge
 have hnb := T2.nb
 generalize upd e2 .own (.loc h3.nxt) = e3 at hoe he3 hre3 hde3 hbe3 hge3
 generalize h3.nxt = ol at hoe hob ho
 generalize h3.new (.list (vStrs own)) = h4 at k4 kp4 S4 BG4 W4 ho
 clear BG BG3 hb2 k3 S3 T2 W2 hre2 hde2 hge
 refine sc_setSub (q_sum W4 he3 hoe ho hos hol fun h5 k5 => r_var hbe3 (q_item (W4.kp k5) he3 hre3 hde3 hp (.inr ⟨bl, es, _, _, ⟨rfl, rfl, rfl, k5.get BG4.hb, by have := BG4.el; lia⟩, ?_⟩)))
 have hvp := vp_of (ps := z.ps) hp (Nat.le_of_lt_succ hd)
 have hbl5 : bl < h5.nxt := k5.wf.lt (k5.get BG4.hb)
 have k6 := (k4.trans k5.up).set (l := bl) (.dict (dput es ((item (rulesN z.ps (acc z.ps)) r d : Nat) : Int) ((maskOf z.ps own : Nat) : Int))) (.inl (W0.wf _ hnb)) hbl5
 have S6 : PenOk (h5.set bl (.dict (dput es ((item (rulesN z.ps (acc z.ps)) r d : Nat) : Int) ((maskOf z.ps own : Nat) : Int)))) z.p z.qd := by
  obtain ⟨⟨ms, c1, d1, a1, a2, a3⟩, ne⟩ := S4.ke k5
  refine ⟨⟨ms, c1, d1, ?_, ?_, a3⟩, ne⟩
  ·rw [get_set_ne _ _ (fun hw => by have := hpen _ (.inl hw.symm); lia)]; exact a1
  ·rw [get_set_ne _ _ (fun hw => by have := hpen _ (.inr hw.symm); lia)]; exact a2
 have hglb : gl ≠ bl := fun hw => by subst hw; have := BG4.hb; rw [BG4.hg] at this; cases this
 have g1 : (h5.set bl (.dict (dput es ((item (rulesN z.ps (acc z.ps)) r d : Nat) : Int) ((maskOf z.ps own : Nat) : Int)))).get bl = _ := get_set ..
 have g2 : (h5.set bl (.dict (dput es ((item (rulesN z.ps (acc z.ps)) r d : Nat) : Int) ((maskOf z.ps own : Nat) : Int)))).get gl = some (.list (B.map vTr)) := by rw [get_set_ne _ _ hglb]; exact k5.get BG4.hg
 have g3 : (h5.set bl (.dict (dput es ((item (rulesN z.ps (acc z.ps)) r d : Nat) : Int) ((maskOf z.ps own : Nat) : Int)))).get ol = some (.list (vStrs own)) := by rw [get_set_ne _ _ hob]; exact k5.get ho
 generalize h5.set bl (.dict (dput es ((item (rulesN z.ps (acc z.ps)) r d : Nat) : Int) ((maskOf z.ps own : Nat) : Int))) = h6 at k6 S6 g1 g2 g3
 refine sc_assign ?_
 refine q_begun k6.wf hre3 hde3 hoe hge3 g3 g2 hol (by have := BG4.Bl; lia) fun h7 N k7 hN g7 => ?_
 dsimp only [UF,UG]
 refine q _ _ ⟨he3.upd rfl, (upd_ne (by decide)).trans hbe3, k6.trans k7.up, S6.ke k7, hnb, N, dput es ((item (rulesN z.ps (acc z.ps)) r d : Nat) : Int) ((maskOf z.ps own : Nat) : Int), mput μ0 r d (maskOf z.ps own), reBeg r d B own, upd_eq, Nat.le_trans k6.le hN, ?_⟩
 ·refine ⟨k7.get g1, g7, BG4.beg.put W0.D r d hos hnd, BG4.rep.put hvp _, ?_, ?_, ?_, ?_, ?_⟩
  ·have := dput_le1 es ((item (rulesN z.ps (acc z.ps)) r d : Nat) : Int) ((maskOf z.ps own : Nat) : Int)
   have := BG4.el; lia
  ·have := reBeg_len r d B own
   have := BG4.Bl; lia
  ·intro r' d' m hm
   unfold mput at hm
   split at hm
   ·cases hm; exact maskOf_lt W0.D hos hnd
   ·exact BG4.m60 r' d' m hm
  ·rintro ⟨r', d', s⟩ ht
   rw [reBeg_mem] at ht
   split at ht
   ·rename_i hh; obtain ⟨rfl, rfl⟩ := hh
    exact ⟨p, hp, Nat.le_of_lt_succ hd⟩
   ·exact BG4.val _ ht
  ·intro r' d' s ht hs
   rw [reBeg_mem] at ht
   split at ht
   ·exact hos s (ht.resolve_right hs)
   ·exact BG4.sig _ _ _ ht hs
end
end Mine
end
section
namespace Mine
section
variable {h h0 : MH} {n : Nat} {C : CS} {z : LL} {e : Env}
theorem q_get {o k d : E} {Q : V → MH → Prop} (q : wE C o e h fun vo h1 => (∃ l es, vo = .loc l ∧ h1.get l = some (.dict es)) ∧ wE C k e h1 fun vk h2 => wE C d e h2 fun vd h3 => getop vo vk vd h3 Q) : wE C (.get o k d) e h Q := by dsimp only [EA,EB,EC,ED,EE,EF,EG,EH,EI,EJ,EK,EL,EM,EN,EO,EP,EQ,ER,ES,ET,EU,EV,EW,EX,EY,EZ,Ea,Eb,Ec]; exact q
theorem q_ite {t : T} {a b : E} {Q : V → MH → Prop} (q : wT C t e h fun r h1 => if r = true then wE C a e h1 Q else wE C b e h1 Q) : wE C (.ite t a b) e h Q := by dsimp only [EA,EB,EC,ED,EE,EF,EG,EH,EI,EJ,EK,EL,EM,EN,EO,EP,EQ,ER,ES,ET,EU,EV,EW,EX,EY,EZ,Ea,Eb,Ec]; exact q
theorem q_int {i : Int} {Q : V → MH → Prop} (q : Q (.int i) h) : wE C (.int i) e h Q := by dsimp only [EA,EB,EC,ED,EE,EF,EG,EH,EI,EJ,EK,EL,EM,EN,EO,EP,EQ,ER,ES,ET,EU,EV,EW,EX,EY,EZ,Ea,Eb,Ec]; exact q
theorem q_strE {x : Nm} {Q : V → MH → Prop} (q : Q (.str x) h) : wE C (.str x) e h Q := by dsimp only [EA,EB,EC,ED,EE,EF,EG,EH,EI,EJ,EK,EL,EM,EN,EO,EP,EQ,ER,ES,ET,EU,EV,EW,EX,EY,EZ,Ea,Eb,Ec]; exact q
structure HeH (z : LL) (h0 h : MH) (e : Env) (bl hl : Nat) (X : List Tr) : Prop where
 he : SubE (lwF z) e
 hbe : e .begins = some (.loc bl)
 hhe : e .held = some (.loc hl)
 kp : Kp h0 h
 new : h0.nxt ≤ hl
 ex : ∃ es μ, h.get hl = some (.dict es) ∧ DRep (rulesN z.ps (acc z.ps)) es μ ∧ Held z.ps X μ
theorem q_held {bl hl r d : Nat} {s : Nm} {p : Pr} {X : List Tr} {Qr : V → Env → MH → Prop} {K : Env → MH → Prop} (W0 : LW h0 z) (T : HeH z h0 h e bl hl X) (hre : e .rule = some (.int (r : Int))) (hde : e .dot = some (.int (d : Int))) (hse : e .sign = some (.str s))
  (hp : (acc z.ps)[r]? = some p) (hd : d ≤ p.2.length) (hs : s ≠ .nil → s ∈ signsOf z.ps) (q : ∀ e' h', HeH z h0 h' e' bl hl (X ++ [(r, d, s)]) → (∀ l, l ≠ hl → h'.get l = h.get l) → K e' h') :
  wSs (CL prog (n + 1)) heldBody e h (fun fl e' h' => match fl with | .ret v => Qr v e' h' | _ => K e' h') := by
 have W : LW h z := W0.kp T.kp
 obtain ⟨es, μ, hg, R, H⟩ := T.ex
 have hvp := vp_of (ps := z.ps) hp hd
 have hel := R.len W.G
 show wSs _ (.cons (.assign .item _) _) e h _
 refine sc_assign (q_item W T.he hre hde hp ?_)
 have hie : upd e .item (.int ((item (rulesN z.ps (acc z.ps)) r d : Nat) : Int)) .item = some (.int ((item (rulesN z.ps (acc z.ps)) r d : Nat) : Int)) := upd_eq
 have he2 : SubE (lwF z) (upd e .item (.int ((item (rulesN z.ps (acc z.ps)) r d : Nat) : Int))) := T.he.upd rfl
 have hbe2 : upd e .item (.int ((item (rulesN z.ps (acc z.ps)) r d : Nat) : Int)) .begins = _ := (upd_ne (by decide)).trans T.hbe
 have hhe2 : upd e .item (.int ((item (rulesN z.ps (acc z.ps)) r d : Nat) : Int)) .held = _ := (upd_ne (by decide)).trans T.hhe
 have hse2 : upd e .item (.int ((item (rulesN z.ps (acc z.ps)) r d : Nat) : Int)) .sign = _ := (upd_ne (by decide)).trans hse
 generalize upd e .item (.int ((item (rulesN z.ps (acc z.ps)) r d : Nat) : Int)) = e2 at hie he2 hbe2 hhe2 hse2
 refine sc_setSub (q_bin ?_)
 refine q_get (r_var hhe2 ⟨⟨_, _, rfl, hg⟩, r_var hie (q_int ⟨hl, es, _, 0, ⟨rfl, rfl, rfl, hg⟩, ?_⟩)⟩)
 have hget : (dget es ((item (rulesN z.ps (acc z.ps)) r d : Nat) : Int)).getD 0 = (((μ r d).getD 0 : Nat) : Int) := by
  rw [R.get r d hvp]
  cases μ r d <;> rfl
 rw [hget]
 have fin : binop .bor (.int (((μ r d).getD 0 : Nat) : Int)) (.int ((bitOf z.ps s : Nat) : Int)) h fun vv h1 => wE (CL prog (n + 1)) (.var .held) e2 h1 fun va h2 => wE (CL prog (n + 1)) (.var .item) e2 h2 fun vi h3 => setSubop va vi vv h3 fun h4 => wSs (CL prog (n + 1)) .nil e2 h4 (fun fl e' h' => match fl with | .ret v => Qr v e' h' | _ => K e' h') := by
  refine ⟨_, _, ⟨rfl, rfl⟩, r_var hhe2 (r_var hie (.inr ⟨hl, es, _, _, ⟨rfl, rfl, rfl, hg, by lia⟩, ?_⟩))⟩
  dsimp only [UF,UG]
  refine q _ _ ⟨he2, hbe2, hhe2, T.kp.set _ (.inl (W0.wf _ T.new)) (W.wf.lt hg), T.new, _, _, get_set .., R.put hvp _, H.put r d s⟩ fun l hl => get_set_ne _ _ hl
 refine q_ite ?_
 dsimp only [JA,JB,JC,JD,JE,JF,JG]
 refine r_var hse2 (q_strE ?_)
 refine ⟨decide (s = .nil), rfl, ?_⟩
 by_cases hs0 : s = .nil
 ·rw [decide_eq_true hs0]
  refine (if_neg (c := (!true) = true) (by simp)).mpr ?_
  have hb0 : bitOf z.ps s = 0 := if_pos hs0
  rw [hb0] at fin
  exact q_int fin
 ·rw [decide_eq_false hs0]
  refine (if_pos (c := (!false) = true) rfl).mpr ?_
  have hb0 : bitOf z.ps s = 2 ^ num z.ps s := if_neg hs0
  rw [hb0] at fin
  exact q_pow W he2 hse2 (hs hs0) fin
end
end Mine
end
section
namespace Mine
section
variable {h h0 : MH} {n : Nat} {C : CS} {z : LL} {e : Env}
theorem nulB_iff {rs : List Rl} {ns : Nat} {found : List Bool} (N : NulL rs ns found) (s : Nat) : nulB found s = true ↔ Nul rs s := by
 rw [← N.2 s]
 unfold nulB
 rw [List.getD_eq_getElem?_getD]
 cases q : found[s]? with
 | none => simp
 | some b => cases b <;> simp
theorem hfg_of {ps : List Pr} {emp : List Nm} {ns : Nat} {found : List Bool} (D : Drawn ps) (E : EmpOk ps emp) (N : NulL (rulesN ps (acc ps)) ns found) : ∀ x ∈ namesOf ps, nulB found (sg ps x) = memB emp x := fun x hx => by
 rw [Bool.eq_iff_iff, nulB_iff N, nul_iff D hx, ← E x]
 unfold memB; rw [decide_eq_true_eq]
theorem q_ask {bl gl hl kl k : Nat} {es : List (Int × Int)} {μ0 : Mp} {B : List Tr} {hs : List (Int × Int)} {μ : Mp} {P : Bool → MH → Prop} (W : LW h z) (he : SubE (lwF z) e) (hbe : e .begins = some (.loc bl)) (hhe : e .held = some (.loc hl)) (hke : e .kept = some (.loc kl))
  (BG : BgH z h bl gl k es μ0 B) (hk : k < 60) (hh : h.get hl = some (.dict hs)) (R : DRep (rulesN z.ps (acc z.ps)) hs μ)
  (hM : ∀ f : Nat → Bool, (∀ x ∈ namesOf z.ps, f (sg z.ps x) = memB z.emp x) → MapOk (rulesN z.ps (acc z.ps)) (termsOf z.ps).length f μ0 μ)
  (hkl : h.get kl = some (.dict es)) (q : ∀ h', Kp h h' → P false h') :
  wT (CL prog (n + 3)) (.or (.cmp .ne (.call .spread_items (.cons (.var .grammar) (.cons (.var .begins) (.cons (.call .nullable (.cons (.var .grammar) .nil)) (.cons (.call .first_masks (.cons (.var .grammar) .nil)) .nil))))) (.var .held)) (.cmp .ne (.var .begins) (.var .kept))) e h P := by
 have hnt : (termsOf z.ps).length < 60 := by have := terms_len (ps := z.ps); lia
 dsimp only [JA,JB,JC,JD,JE,JF,JG,EA,EB,EC,ED,EE,EF,EG,EH,EI,EJ,EK,EL,EM,EN,EO,EP,EQ,ER,ES,ET,EU,EV,EW,EX,EY,EZ,Ea,Eb,Ec,UA,UB]
 refine ⟨_, he .grammar _ rfl, _, hbe, _, he .grammar _ rfl, sp_nullable W.wf W.G fun h1 N1 f1 k1 g1 n1 => ?_⟩
 have W1 := W.kp k1
 refine ⟨_, he .grammar _ rfl, sp_first_masks W1.wf W1.G hnt fun h2 N2 f2 masks k2 n2 g2 m2 => ?_⟩
 have W2 := W1.kp k2
 have hff : f2 = f1 := n2.uniq n1
 subst hff
 have hml : ∀ m ∈ masks, m < 2 ^ 60 := fun m hm => by
  obtain ⟨i, hi, rfl⟩ := List.getElem_of_mem hm
  refine Nat.lt_pow_two_of_testBit _ fun b hb => ?_
  cases q2 : masks[i].testBit b with
  | false => rfl
  | true =>
   have h3 := (m2.2 i b (by rw [← m2.1]; exact hi)).mp (by rw [List.getD_eq_getElem?_getD, List.getElem?_eq_getElem hi]; exact q2)
   have : b < (termsOf z.ps).length := by
    clear q2 hb
    generalize hs : i = s at h3
    clear hs
    induction h3 with
    | base h => exact h
    | step _ _ _ ih => exact ih
   lia
 have kk : Kp h h2 := k1.trans k2
 have BG2 := BG.ke kk (fun x => x) fun x => x
 refine sp_spread_items (es0 := es) (μ0 := μ0) (found := f2) (masks := masks) W2.wf W2.G hnt BG2.hb BG2.rep (by have := BG2.el; lia) BG2.m60 (k2.get g1) n1 g2 m2 hml fun h3 N3 es3 μ3 k3 g3 R3 M3 => ?_
 have k13 : Kp h h3 := kk.trans k3
 have hμ : μ3 = μ := M3.uniq (hM _ (hfg_of W.D W.ok n1))
 subst hμ
 have W3 := W2.kp k3
 have l1 := DRep.len W3.G R3
 have l2 := DRep.len W3.G R
 have l3 := DRep.len W3.G BG.rep
 refine ⟨_, hhe, .inr ⟨es3, hs, ⟨g3, k13.get hh, by lia, by lia⟩, ?_⟩⟩
 rw [R3.deq R]
 refine (if_neg (c := (!true) = true) (by simp)).mpr ?_
 refine ⟨_, hbe, _, hke, .inr ⟨es, es, ⟨k13.get BG.hb, k13.get hkl, by lia, by lia⟩, ?_⟩⟩
 rw [BG.rep.deq BG.rep]
 exact q _ k13
theorem q_lap {Qr : V → Env → MH → Prop} {K : Env → MH → Prop} (W : LW h z) (he : SubE (lwF z) e) (q : ∀ e' h', SubE (lwF z) e' → Ke (PenW z.p z.qd) h h' → PenOk h' z.p z.qd → K e' h') :
  wSs (CL prog (n + 3)) lapBody e h (fun fl e' h' => match fl with | .ret v => Qr v e' h' | _ => K e' h') := by
 have hpen := pen_lt W
 show wSs _ (.cons (.assign2 .begins .begun _ _) _) e h _
 refine sc_assign2 ?_
 dsimp only [EA,EB,EC,ED,EE,EF,EG,EH,EI,EJ,EK,EL,EM,EN,EO,EP,EQ,ER,ES,ET,EU,EV,EW,EX,EY,EZ,Ea,Eb,Ec,UA,UB]
 have k1 : Kp h (h.new (.dict [])) := (Ke.refl W.wf).new _
 have k2 : Kp h ((h.new (.dict [])).new (.list [])) := k1.new (.list [])
 refine ⟨by simp, _, _, ⟨by decide, rfl, rfl⟩, ?_⟩
 have g1 : ((h.new (.dict [])).new (.list [])).get h.nxt = some (.dict []) := get_new_of k1.wf _ (get_new ..)
 have g2 : ((h.new (.dict [])).new (.list [])).get (h.new (.dict [])).nxt = some (.list []) := get_new ..
 have T : TuH z h ((h.new (.dict [])).new (.list [])) (upd (upd e .begins (.loc h.nxt)) .begun (.loc (h.new (.dict [])).nxt)) h.nxt 0 := by
  refine ⟨(he.upd rfl).upd rfl, (upd_ne (by decide)).trans upd_eq, k2.up, W.pen.ke k2, Nat.le_refl _, (h.new (.dict [])).nxt, [], fun _ _ => none, [], upd_eq, Nat.le_succ _, g1, g2, Beg.empty, ⟨by simp, fun r d _ => rfl, by simp, fun r d m hm => (by cases hm)⟩, by simp, by simp, fun r d m hm => (by cases hm), by simp, by simp⟩
 generalize upd (upd e .begins (.loc h.nxt)) .begun (.loc (h.new (.dict [])).nxt) = e1 at T
 generalize (h.new (.dict [])).new (.list []) = h1 at T
 clear g1 g2 k1 k2 he
 generalize h.nxt = bl at T
 refine sc_for ?_
 dsimp only [UC,UD,UE]
 refine q_bin (q_int (q_draw (m := 3) T.ke.wf T.S (by lia) (by lia) (T.he .pen _ rfl) (fun P q => q_int q) fun h2 r k2 S2 hr => ?_))
 refine ⟨((1 + r : Nat) : Int), ⟨by show V.int (1 + (r : Int)) = _; congr 2; try lia, by unfold small; lia⟩, ?_⟩
 have T2 : TuH z h h2 e1 bl 0 := by
  obtain ⟨gl, es, μ0, B, a, b, c⟩ := T.bg
  refine ⟨T.he, T.hbe, T.ke.trans k2, S2, T.nb, gl, es, μ0, B, a, b, c.ke k2 (fun hw => ?_) fun hw => ?_⟩
  ·have := hpen _ hw; have := T.nb; lia
  ·have := hpen _ hw; lia
 refine for_range (fun i e' h' => TuH z h h' e' bl i) (by lia) ?_ ?_ T2
 ·intro i e' h' hi T3 K3 hK3
  exact q_turn W (T3.var (x := .turn) (v := .int (i : Int)) rfl (by decide) (by decide)) (by lia) fun e4 h4 T4 => hK3 _ _ T4
 intro e2 h2' T3
 clear T T2
 obtain ⟨gl, es, μ0, B, hge, hgl, BG⟩ := T3.bg
 have W3 := W.ke T3.ke T3.S
 refine sc_assign ?_
 dsimp only [EA,EB,EC,ED,EE,EF,EG,EH,EI,EJ,EK,EL,EM,EN,EO,EP,EQ,ER,ES,ET,EU,EV,EW,EX,EY,EZ,Ea,Eb,Ec]
 have k4 : Kp h2' (h2'.new (.dict [])) := (Ke.refl T3.ke.wf).new _
 have W4 := W3.kp k4
 have BG4 := BG.ke k4 (fun x => x) fun x => x
 have gh4 : (h2'.new (.dict [])).get h2'.nxt = some (.dict []) := get_new ..
 have k4e := T3.ke.trans k4.up
 have S4 := T3.S.ke k4
 have hhe : upd e2 .held (.loc h2'.nxt) .held = some (.loc h2'.nxt) := upd_eq
 have he4 : SubE (lwF z) (upd e2 .held (.loc h2'.nxt)) := T3.he.upd rfl
 have hbe4 : upd e2 .held (.loc h2'.nxt) .begins = _ := (upd_ne (by decide)).trans T3.hbe
 have hge4 : upd e2 .held (.loc h2'.nxt) .begun = _ := (upd_ne (by decide)).trans hge
 have hlw := T3.ke.wf
 have hll : h2'.get h2'.nxt = none := hlw _ (Nat.le_refl _)
 generalize upd e2 .held (.loc h2'.nxt) = e4 at hhe he4 hbe4 hge4
 have hhn : h2'.nxt ≤ h2'.nxt := Nat.le_refl _
 generalize hhl : h2'.nxt = hl at gh4 hhe
 have hnh : h2'.nxt ≤ hl := Nat.le_of_eq hhl
 generalize h2'.new (.dict []) = h4 at W4 BG4 gh4 k4e S4 k4
 have hBl := BG4.Bl
 have hDl := W.D.len
 have hplen : ∀ p ∈ acc z.ps, p.2.length ≤ 8 := fun p hp => by
  rcases List.mem_cons.mp hp with rfl | hm
  ·simp
  ·exact W.D.plen p hm
 refine sc_for ?_
 dsimp only [UC,UD,UE]
 refine q_call ?_
 dsimp only [UA,UB,EA,EB,EC,ED,EE,EF,EG,EH,EI,EJ,EK,EL,EM,EN,EO,EP,EQ,ER,ES,ET,EU,EV,EW,EX,EY,EZ,Ea,Eb,Ec]
 refine ⟨_, he4 .pairs _ rfl, _, hge4, _, he4 .empty _ rfl, ?_⟩
 refine sp_pairs_of W4.wf W4.P (by simp; lia) hplen W4.emp BG4.hg (by lia) BG4.val fun h5 N X k5 g5 hX9 hXv hXR => ?_
 have HE : HeH z h2' h5 e4 bl hl (X.take 0) := by
  refine ⟨he4, hbe4, hhe, k4.trans k5, hnh, [], fun _ _ => none, k5.get gh4, ⟨by simp, fun r d _ => rfl, by simp, fun r d m hm => (by cases hm)⟩, Held.empty⟩
 have hXs : ∀ t ∈ X, t.2.2 ≠ .nil → t.2.2 ∈ signsOf z.ps := fun t ht hs => r3_sign W.D BG4.sig ((hXR _ _ _).mp ht) hs
 have hNl : N ≠ hl := fun hw => by subst hw; rw [k5.get gh4] at g5; cases g5
 refine for_seq (vs := X.map vTr) (fun j e' h' => HeH z h2' h' e' bl hl (X.take j) ∧ h'.get N = some (.list (X.map vTr))) ?_ ?_ ?_ ⟨HE, g5⟩
 ·rintro j e' h' ⟨_, k⟩
  simp only [items, k]
 ·rintro j e' h' v hv ⟨H, k⟩
  obtain ⟨t, ht, rfl⟩ : ∃ t, X[j]? = some t ∧ vTr t = v := map_at hv
  obtain ⟨r', d', s⟩ := t
  refine ⟨_, rfl, fun K3 hK3 => ?_⟩
  have htm := List.mem_of_getElem? ht
  obtain ⟨p, hp, hd⟩ := hXv _ htm
  have H2 : HeH z h2' h' (upd (upd (upd e' .rule (.int (r' : Int))) .dot (.int (d' : Int))) .sign (.str s)) bl hl (X.take j) :=
   ⟨((H.he.upd rfl).upd rfl).upd rfl, (upd_ne (by decide)).trans ((upd_ne (by decide)).trans ((upd_ne (by decide)).trans H.hbe)), (upd_ne (by decide)).trans ((upd_ne (by decide)).trans ((upd_ne (by decide)).trans H.hhe)), H.kp, H.new, H.ex⟩
  refine q_held W3 H2 ((upd_ne (by decide)).trans ((upd_ne (by decide)).trans upd_eq)) ((upd_ne (by decide)).trans upd_eq) upd_eq hp hd (hXs _ htm) fun e7 h7 H7 hsame => hK3 _ _ ⟨?_, (hsame N hNl).trans k⟩
  rw [List.take_add_one, ht]; exact H7
 ·rintro e5 h6 ⟨H, k⟩
  rw [List.length_map, List.take_length] at H
  obtain ⟨hs, μ, hg6, R6, H6⟩ := H.ex
  have k26 := H.kp
  have W6 := W3.kp k26
  have BG6 := BG.ke k26 (fun x => x) fun x => x
  refine sc_assign (q_b1 (r_var H.hbe (.inl ⟨_, _, ⟨rfl, BG6.hb, by have := BG6.el; lia⟩, ?_⟩)))
  have k7 : Kp h6 (h6.new (.dict es)) := (Ke.refl k26.wf).new _
  have W7 := W6.kp k7
  have BG7 := BG6.ke k7 (fun x => x) fun x => x
  refine sc_ite ?_
  refine q_ask (gl := gl) (μ0 := μ0) (B := B) (hs := hs) (μ := μ) (es := es) W7 (H.he.upd rfl) ((upd_ne (by decide)).trans H.hbe) ((upd_ne (by decide)).trans H.hhe) upd_eq BG7 (by lia) (k7.get hg6) R6 (fun f hf => held_ok W.D hf BG.beg hXR H6) (get_new ..) fun h8 k8 => ?_
  rw [if_neg (by simp)]
  dsimp only [UF,UG]
  refine q _ _ (H.he.upd rfl) (T3.ke.trans (Kp.up (k26.trans (k7.trans k8)))) (((T3.S.ke k26).ke k7).ke k8)
end
end Mine
end
section
namespace Mine
section
variable {h : MH} {n : Nat} {C : CS} {e : Env}
theorem q_list {es : Es} {Q : V → MH → Prop} (q : wEs C es e h fun vs h1 => vs.length ≤ 100 ∧ Q (.loc h1.nxt) (h1.new (.list vs))) : wE C (.list es) e h Q := by dsimp only [EA,EB,EC,ED,EE,EF,EG,EH,EI,EJ,EK,EL,EM,EN,EO,EP,EQ,ER,ES,ET,EU,EV,EW,EX,EY,EZ,Ea,Eb,Ec]; exact q
theorem q_copy {N : Nat} {ps : List Pr} {ks : List Nat} {Q : V → MH → Prop} (w : Wf h) (P : PAt h N ps ks) (hd : e .drawn = some (.loc N)) (hl : ps.length ≤ 40) (hpl : ∀ p ∈ ps, p.2.length ≤ 8)
  (q : ∀ h' M ks', Kp h h' → PAt h' M ps ks' → Q (.loc M) h') : wE C (.comp (.tup (.cons (.var .name) (.cons (.b1 .list (.var .parts)) .nil))) [.name, .parts] (.seq (.var .drawn)) .tt) e h Q := by
 refine q_comp (q_seq (r_var hd ?_))
 refine for_seq (vs := (ps.zip ks).map fun x => V.tup [.str x.1.1, .loc x.2]) (fun j acc h2 => Kp h h2 ∧ ∃ ks' : List Nat, ks'.length = j ∧ acc = ((ps.take j).zip ks').map (fun x => V.tup [.str x.1.1, .loc x.2]) ∧ ∀ (i : Nat) p k, ps[i]? = some p → ks'[i]? = some k → h2.get k = some (.list (vStrs p.2))) ?_ ?_ ?_ ⟨Ke.refl w, [], rfl, rfl, fun i p k _ hk => by simp at hk⟩
 ·rintro j acc h2 ⟨k, _⟩
  simp only [items, (P.kp k).at_]
 ·rintro j acc h2 v hv ⟨k, ks', hkl, rfl, hks⟩
  obtain ⟨p, kk, hp, hkk, rfl, hpart⟩ := (P.kp k).get hv
  have hj := lt_of_get hp
  refine ⟨_, rfl, fun K hK => ?_⟩
  simp only [JA,JB,JC,JD,JE,JF,JG,if_true,EA,EB,EC,ED,EE,EF,EG,EH,EI,EJ,EK,EL,EM,EN,EO,EP,EQ,ER,ES,ET,EU,EV,EW,EX,EY,EZ,Ea,Eb,Ec,UA,UB]
  refine ⟨_, rfl, _, rfl, vStrs p.2, ⟨by simp only [items, hpart], by rw [vStrs_length]; have := hpl p (List.mem_of_getElem? hp); simp only [room]; lia⟩, [.str p.1, .loc h2.nxt], ⟨rfl, by simp⟩, ?_, hK _ _ ⟨k.new _, ks' ++ [h2.nxt], by simp [hkl], ?_, ?_⟩⟩
  ·rw [List.length_map, List.length_zip]; simp only [room]; lia
  ·rw [List.take_add_one, hp]
   show _ = List.map _ ((List.take j ps ++ [p]).zip (ks' ++ [h2.nxt]))
   rw [List.zip_append (by rw [hkl, List.length_take]; lia), List.map_append]; rfl
  ·intro i p' k' h1 h3
   rw [List.getElem?_append] at h3
   split at h3
   ·exact get_new_of k.wf _ (hks i p' k' h1 h3)
   ·rename_i hi
    have h4 := lt_of_get h3
    simp only [List.length_cons, List.length_nil] at h4
    have hij : i = j := by lia
    subst hij
    rw [hkl, Nat.sub_self] at h3
    cases h3
    rw [hp] at h1; cases h1
    exact get_new ..
 ·rintro acc h2 ⟨k, ks', hkl, rfl, hks⟩
  rw [PAt.zlen P] at hkl
  have hzl : (ps.take (((ps.zip ks).map fun x => V.tup [.str x.1.1, .loc x.2]).length)) = ps := by rw [P.zlen, List.take_length]
  rw [hzl]
  exact q _ _ ks' (k.new _) ⟨get_new .., hkl, fun i p k' h1 h3 => get_new_of k.wf _ (hks i p k' h1 h3)⟩
theorem q_signs {g nt : Nat} {L : Loc} {rs : List Rl} {ps : List Pr} {Q : V → MH → Prop} (w : Wf h) (G : GAt h g L (namesOf ps) nt rs) (hg : e .grammar = some (.loc g)) (q : ∀ h' M, Kp h h' → h.nxt ≤ M → h'.get M = some (.list (vStrs (signsOf ps))) → Q (.loc M) h') :
  wE (CL prog (n + 1)) (.bin .add (.comp (.var .name) [.name] (.seq (.list (.cons (.str .dend) (.cons (.str .a) (.cons (.str .b) (.cons (.str .c) .nil)))))) (.cmp .ge (.meth .gnumber (.var .grammar) (.cons (.var .name) .nil)) (.int 0))) (.list (.cons (.str .mark) .nil))) e h Q := by
 refine q_bin (q_comp (q_seq (q_list ?_)))
 dsimp only [UA,UB]
 refine q_strE (q_strE (q_strE (q_strE ⟨by simp, ?_⟩)))
 have k1 : Kp h (h.new (.list [V.str .dend, V.str .a, V.str .b, V.str .c])) := (Ke.refl w).new _
 have g1 : (h.new (.list [V.str .dend, V.str .a, V.str .b, V.str .c])).get h.nxt = some (.list (vStrs [.dend, .a, .b, .c])) := get_new ..
 have hn1 : h.nxt ≤ (h.new (.list [V.str .dend, V.str .a, V.str .b, V.str .c])).nxt := Nat.le_succ _
 generalize h.new (.list [V.str .dend, V.str .a, V.str .b, V.str .c]) = h1 at k1 g1 hn1
 have G1 := G.kp k1
 refine for_seq (vs := vStrs [.dend, .a, .b, .c]) (fun j acc h2 => h2 = h1 ∧ acc = vStrs (([Nm.dend, Nm.a, Nm.b, Nm.c].take j).filter fun x => decide (x ∈ namesOf ps))) ?_ ?_ ?_ ⟨rfl, rfl⟩
 ·rintro j acc h2 ⟨rfl, _⟩
  simp only [items, g1]
 ·rintro j acc h2 v hv ⟨rfl, rfl⟩
  obtain ⟨x, hx, rfl⟩ : ∃ x, ([Nm.dend, Nm.a, Nm.b, Nm.c] : List Nm)[j]? = some x ∧ V.str x = v := map_at hv
  refine ⟨_, rfl, fun K hK => ?_⟩
  have htk : [Nm.dend, Nm.a, Nm.b, Nm.c].take (j + 1) = [Nm.dend, Nm.a, Nm.b, Nm.c].take j ++ [x] := by rw [List.take_add_one, hx]; rfl
  dsimp only [JA,JB,JC,JD,JE,JF,JG,EA,EB,EC,ED,EE,EF,EG,EH,EI,EJ,EK,EL,EM,EN,EO,EP,EQ,ER,ES,ET,EU,EV,EW,EX,EY,EZ,Ea,Eb,Ec,UA,UB]
  refine ⟨_, (upd_ne (by decide)).trans hg, ⟨_, _, rfl, G1.at_, G1.nonum⟩, _, upd_eq, sp_gnumber G1 ?_⟩
  show (fun r : Bool => if r = true then _ else _) (decide ((0 : Int) ≤ if x ∈ namesOf ps then _ else _))
  dsimp only
  have hfl := List.length_filter_le (fun x => decide (x ∈ namesOf ps)) ([Nm.dend, Nm.a, Nm.b, Nm.c].take j)
  have hjl := List.length_take_le' j [Nm.dend, Nm.a, Nm.b, Nm.c]
  simp only [List.length_cons, List.length_nil] at hjl
  by_cases hm : x ∈ namesOf ps
  ·rw [if_pos hm]
   refine (if_pos (decide_eq_true (by lia))).mpr ⟨_, upd_eq, by rw [vStrs_length]; simp only [room]; lia, hK _ _ ⟨rfl, ?_⟩⟩
   rw [htk, List.filter_append, List.filter_cons, if_pos (decide_eq_true hm)]; simp [vStrs]
  ·rw [if_neg hm]
   refine (if_neg (by simp)).mpr (hK _ _ ⟨rfl, ?_⟩)
   rw [htk, List.filter_append, List.filter_cons, if_neg (by rw [decide_eq_false hm]; simp)]; simp
 ·rintro acc h2 ⟨rfl, rfl⟩
  have h4 : (([Nm.dend, Nm.a, Nm.b, Nm.c].take (vStrs [Nm.dend, Nm.a, Nm.b, Nm.c]).length).filter fun x => decide (x ∈ namesOf ps)) = signs4 ps := rfl
  rw [h4]
  have hl4 : (signs4 ps).length ≤ 4 := List.length_filter_le _ _
  refine q_list ?_
  dsimp only [UA,UB]
  refine q_strE ⟨by simp, ?_⟩
  have k2 : Kp h (h2.new (.list (vStrs (signs4 ps)))) := k1.new _
  have k3 : Kp h ((h2.new (.list (vStrs (signs4 ps)))).new (.list [V.str .mark])) := k2.new _
  refine ⟨vStrs (signs4 ps), [V.str .mark], ⟨get_new_of k2.wf _ (get_new ..), get_new .., by rw [vStrs_length]; simp only [room, List.length_cons, List.length_nil]; lia⟩, ?_⟩
  refine q _ _ (k3.new _) k3.le ?_
  refine (get_new ..).trans ?_
  unfold signsOf; simp [vStrs]
theorem q_number {g sl : Nat} {L : Loc} {rs : List Rl} {ps : List Pr} {Q : V → MH → Prop} (w : Wf h) (G : GAt h g L (namesOf ps) (termsOf ps).length rs) (hg : e .grammar = some (.loc g)) (hsl : e .signs = some (.loc sl)) (hme : e .mark = some (.int ((termsOf ps).length : Int)))
  (hs : h.get sl = some (.list (vStrs (signsOf ps)))) (q : ∀ h' M, Kp h h' → h.nxt ≤ M → h'.get M = some (.sdict (numD ps)) → Q (.loc M) h') :
  wE (CL prog (n + 1)) (.b1 .dict (.bin .add (.comp (.tup (.cons (.var .name) (.cons (.meth .gnumber (.var .grammar) (.cons (.var .name) .nil)) .nil))) [.name] (.seq (.slTo (.var .signs) .negOne)) .tt) (.list (.cons (.tup (.cons (.str .mark) (.cons (.var .mark) .nil))) .nil)))) e h Q := by
 have hsl5 := signs_len (ps := ps)
 have hl4 : (signs4 ps).length ≤ 4 := List.length_filter_le _ _
 refine q_b1 (q_bin (q_comp (q_seq ?_)))
 dsimp only [EA,EB,EC,ED,EE,EF,EG,EH,EI,EJ,EK,EL,EM,EN,EO,EP,EQ,ER,ES,ET,EU,EV,EW,EX,EY,EZ,Ea,Eb,Ec]
 refine ⟨_, hsl, vStrs (signsOf ps), ⟨hs, by unfold small; lia, by rw [vStrs_length]; simp only [room]; lia⟩, ?_⟩
 have hcut : cutTo (vStrs (signsOf ps)) (-1) = vStrs (signs4 ps) := by
  unfold cutTo
  rw [if_neg (by lia)]
  unfold signsOf vStrs
  simp
 rw [hcut]
 have k1 : Kp h (h.new (.list (vStrs (signs4 ps)))) := (Ke.refl w).new _
 have g1 : (h.new (.list (vStrs (signs4 ps)))).get h.nxt = some (.list (vStrs (signs4 ps))) := get_new ..
 generalize h.new (.list (vStrs (signs4 ps))) = h1 at k1 g1
 have G1 := G.kp k1
 refine for_seq (vs := vStrs (signs4 ps)) (fun j acc h2 => h2 = h1 ∧ acc = ((signs4 ps).take j).map fun x => V.tup [.str x, .int ((num ps x : Nat) : Int)]) ?_ ?_ ?_ ⟨rfl, rfl⟩
 ·rintro j acc h2 ⟨rfl, _⟩
  simp only [items, g1]
 ·rintro j acc h2 v hv ⟨rfl, rfl⟩
  obtain ⟨x, hx, rfl⟩ : ∃ x, (signs4 ps)[j]? = some x ∧ V.str x = v := map_at hv
  refine ⟨_, rfl, fun K hK => ?_⟩
  have hxm := List.mem_of_getElem? hx
  simp only [JA,JB,JC,JD,JE,JF,JG,if_true,UA,UB]
  refine r_var upd_eq ?_
  dsimp only [EA,EB,EC,ED,EE,EF,EG,EH,EI,EJ,EK,EL,EM,EN,EO,EP,EQ,ER,ES,ET,EU,EV,EW,EX,EY,EZ,Ea,Eb,Ec,UA,UB]
  refine ⟨_, (upd_ne (by decide)).trans hg, ⟨_, _, rfl, G1.at_, G1.nonum⟩, _, upd_eq, sp_gnumber G1 ?_⟩
  rw [if_pos (signs4_mem.mp hxm).2]
  refine ⟨[.str x, .int ((num ps x : Nat) : Int)], ⟨by rw [num_of hxm]; rfl, by simp⟩, ?_, hK _ _ ⟨rfl, ?_⟩⟩
  ·have := List.length_take_le' j (signs4 ps)
   rw [List.length_map]; simp only [room]; lia
  ·rw [List.take_add_one, hx, List.map_append]; rfl
 ·rintro acc h2 ⟨rfl, rfl⟩
  rw [vStrs_length, List.take_length]
  dsimp only [UA,UB]
  refine ⟨_, hme, [.str .mark, .int ((termsOf ps).length : Int)], ⟨rfl, by simp⟩, by simp, ?_⟩
  have k2 := k1.new (.list ((signs4 ps).map fun x => V.tup [.str x, .int ((num ps x : Nat) : Int)]))
  have k3 := k2.new (.list [V.tup [.str .mark, .int ((termsOf ps).length : Int)]])
  refine ⟨_, _, ⟨get_new_of k2.wf _ (get_new ..), get_new .., by simp only [List.length_map, room, List.length_cons, List.length_nil]; lia⟩, ?_⟩
  have k4 := k3.new (.list (((signs4 ps).map fun x => V.tup [.str x, .int ((num ps x : Nat) : Int)]) ++ [V.tup [.str .mark, .int ((termsOf ps).length : Int)]]))
  refine .inr ⟨_, _, (signsOf ps).map fun x => (x, ((num ps x : Nat) : Int)), ⟨rfl, get_new .., ?_, by simp only [List.length_map, List.length_append, List.length_cons, List.length_nil]; lia⟩, ?_⟩
  ·unfold signsOf
   rw [List.map_append, List.map_append, List.map_map]
   congr 1
  ·exact q _ _ (k4.new _) k4.le (get_new ..)
end
end Mine
end
section
namespace Mine
section
variable {h : MH} {n : Nat} {e : Env}
theorem q_attr {C : CS} {a : E} {f : Fd} {Q : V → MH → Prop} (q : wE C a e h fun va h1 => attrop va f h1 fun r => Q r h1) : wE C (.attr a f) e h Q := by dsimp only [EA,EB,EC,ED,EE,EF,EG,EH,EI,EJ,EK,EL,EM,EN,EO,EP,EQ,ER,ES,ET,EU,EV,EW,EX,EY,EZ,Ea,Eb,Ec]; exact q
theorem q_tail {p qd N : Nat} {ps : List Pr} {ks : List Nat} (w : Wf h) (S : PenOk h p qd) (P : PAt h N ps ks) (D : Drawn ps) (hap : ∀ l, PenW p qd l → l < h.nxt ∧ l ≠ N ∧ l ∉ ks) (hp : e .pen = some (.loc p)) (hd : e .drawn = some (.loc N)) :
  wSs (CL prog (n + 3)) (sdrop 3 body_law) e h (fun fl _ _ => fl = .ret (.bool true)) := by
 have hDl := D.len
 show wSs _ (.cons (.assign .pairs _) _) e h _
 refine sc_assign (q_bin (q_list ?_))
 dsimp only [UA,UB,EA,EB,EC,ED,EE,EF,EG,EH,EI,EJ,EK,EL,EM,EN,EO,EP,EQ,ER,ES,ET,EU,EV,EW,EX,EY,EZ,Ea,Eb,Ec]
 have k1 : Kp h (h.new (.list [V.str .S, V.str .dend])) := (Ke.refl w).new _
 have k2 : Kp h ((h.new (.list [V.str .S, V.str .dend])).new (.list [V.tup [.str .accept, .loc h.nxt]])) := k1.new _
 refine ⟨by simp, [.str .accept, .loc h.nxt], ⟨rfl, by simp⟩, by simp, _, hd, _, _, ⟨get_new .., k2.get P.at_, by rw [PAt.zlen P]; simp only [room, List.length_cons, List.length_nil]; lia⟩, ?_⟩
 have k3 : Kp h (((h.new (.list [V.str .S, V.str .dend])).new (.list [V.tup [.str .accept, .loc h.nxt]])).new (.list ([V.tup [.str .accept, .loc h.nxt]] ++ (ps.zip ks).map fun x => V.tup [.str x.1.1, .loc x.2]))) := k2.new _
 have gk : (((h.new (.list [V.str .S, V.str .dend])).new (.list [V.tup [.str .accept, .loc h.nxt]])).new (.list ([V.tup [.str .accept, .loc h.nxt]] ++ (ps.zip ks).map fun x => V.tup [.str x.1.1, .loc x.2]))).get h.nxt = some (.list (vStrs [.S, .dend])) := get_new_of k2.wf _ (get_new_of k1.wf _ (get_new ..))
 have gp : (((h.new (.list [V.str .S, V.str .dend])).new (.list [V.tup [.str .accept, .loc h.nxt]])).new (.list ([V.tup [.str .accept, .loc h.nxt]] ++ (ps.zip ks).map fun x => V.tup [.str x.1.1, .loc x.2]))).get ((h.new (.list [V.str .S, V.str .dend])).new (.list [V.tup [.str .accept, .loc h.nxt]])).nxt = some (.list (((acc ps).zip (h.nxt :: ks)).map fun x => V.tup [.str x.1.1, .loc x.2])) := get_new ..
 have npl : h.nxt ≤ ((h.new (.list [V.str .S, V.str .dend])).new (.list [V.tup [.str .accept, .loc h.nxt]])).nxt := k2.le
 generalize ((h.new (.list [V.str .S, V.str .dend])).new (.list [V.tup [.str .accept, .loc h.nxt]])).nxt = pl at gp npl ⊢
 generalize (((h.new (.list [V.str .S, V.str .dend])).new (.list [V.tup [.str .accept, .loc h.nxt]])).new (.list ([V.tup [.str .accept, .loc h.nxt]] ++ (ps.zip ks).map fun x => V.tup [.str x.1.1, .loc x.2]))) = h3 at k3 gk gp
 clear k1 k2
 have PA : PAt h3 pl (acc ps) (h.nxt :: ks) := by
  refine ⟨gp, by simp [P.len], fun i p k h1 h2 => ?_⟩
  cases i with
  | zero => simp at h1 h2; subst h1; subst h2; exact gk
  | succ i => simp at h1 h2; exact k3.get (P.part i p k h1 h2)
 have P3 := P.kp k3
 have hpl8 : ∀ p ∈ ps, p.2.length ≤ 8 := D.plen
 have e1p : upd e .pairs (.loc pl) .pen = _ := (upd_ne (by decide)).trans hp
 have e1d : upd e .pairs (.loc pl) .drawn = _ := (upd_ne (by decide)).trans hd
 have e1a : upd e .pairs (.loc pl) .pairs = _ := upd_eq
 show wSs _ _ _ _ _
 generalize upd e .pairs (.loc pl) = e1 at e1p e1d e1a
 refine sc_assign (q_call ?_)
 dsimp only [UA,UB]
 refine q_copy k3.wf P3 e1d (by lia) hpl8 fun h4 M ks' k4 P4 => ?_
 refine sp_plain k4.wf P4 D fun h5 g L k5 G5 LN => ?_
 have k35 : Kp h h5 := (k3.trans k4).trans k5
 have e2p : upd e1 .grammar (.loc g) .pen = _ := (upd_ne (by decide)).trans e1p
 have e2d : upd e1 .grammar (.loc g) .drawn = _ := (upd_ne (by decide)).trans e1d
 have e2a : upd e1 .grammar (.loc g) .pairs = _ := (upd_ne (by decide)).trans e1a
 have e2g : upd e1 .grammar (.loc g) .grammar = _ := upd_eq
 show wSs _ _ _ _ _
 generalize upd e1 .grammar (.loc g) = e2 at e2p e2d e2a e2g
 refine sc_assign2 (q_call ?_)
 dsimp only [UA,UB]
 refine r_var e2d (sp_law_empty k35.wf (P.kp k35) (by lia) hpl8 fun h6 el emp k6 nel g6 E6 el12 => ?_)
 have k36 : Kp h h6 := k35.trans k6
 have G6 := G5.kp k6
 refine q_attr (r_var e2g (r_attr G6.at_ rfl G6.fnt ⟨_, _, ⟨by decide, rfl, rfl⟩, ?_⟩))
 have e3p : upd (upd e2 .empty (.loc el)) .mark (.int ((termsOf ps).length : Int)) .pen = _ := (upd_ne (by decide)).trans ((upd_ne (by decide)).trans e2p)
 have e3a : upd (upd e2 .empty (.loc el)) .mark (.int ((termsOf ps).length : Int)) .pairs = _ := (upd_ne (by decide)).trans ((upd_ne (by decide)).trans e2a)
 have e3g : upd (upd e2 .empty (.loc el)) .mark (.int ((termsOf ps).length : Int)) .grammar = _ := (upd_ne (by decide)).trans ((upd_ne (by decide)).trans e2g)
 have e3e : upd (upd e2 .empty (.loc el)) .mark (.int ((termsOf ps).length : Int)) .empty = _ := (upd_ne (by decide)).trans upd_eq
 have e3m : upd (upd e2 .empty (.loc el)) .mark (.int ((termsOf ps).length : Int)) .mark = _ := upd_eq
 show wSs _ _ _ _ _
 generalize upd (upd e2 .empty (.loc el)) .mark (.int ((termsOf ps).length : Int)) = e3 at e3p e3a e3g e3e e3m
 refine sc_assign (q_signs k36.wf G6 e3g fun h7 sl k7 nsl g7 => ?_)
 have k37 : Kp h h7 := k36.trans k7
 have e4p : upd e3 .signs (.loc sl) .pen = _ := (upd_ne (by decide)).trans e3p
 have e4a : upd e3 .signs (.loc sl) .pairs = _ := (upd_ne (by decide)).trans e3a
 have e4g : upd e3 .signs (.loc sl) .grammar = _ := (upd_ne (by decide)).trans e3g
 have e4e : upd e3 .signs (.loc sl) .empty = _ := (upd_ne (by decide)).trans e3e
 have e4m : upd e3 .signs (.loc sl) .mark = _ := (upd_ne (by decide)).trans e3m
 have e4s : upd e3 .signs (.loc sl) .signs = _ := upd_eq
 show wSs _ _ _ _ _
 generalize upd e3 .signs (.loc sl) = e4 at e4p e4a e4g e4e e4m e4s
 refine sc_assign (q_number k37.wf (G6.kp k7) e4g e4s e4m g7 fun h8 nl k8 nnl g8 => ?_)
 have k38 : Kp h h8 := k37.trans k8
 have e5p : upd e4 .number (.loc nl) .pen = _ := (upd_ne (by decide)).trans e4p
 have e5a : upd e4 .number (.loc nl) .pairs = _ := (upd_ne (by decide)).trans e4a
 have e5g : upd e4 .number (.loc nl) .grammar = _ := (upd_ne (by decide)).trans e4g
 have e5e : upd e4 .number (.loc nl) .empty = _ := (upd_ne (by decide)).trans e4e
 have e5s : upd e4 .number (.loc nl) .signs = _ := (upd_ne (by decide)).trans e4s
 have e5n : upd e4 .number (.loc nl) .number = _ := upd_eq
 show wSs _ _ _ _ _
 generalize upd e4 .number (.loc nl) = e5 at e5p e5a e5g e5e e5s e5n
 have k58 : Kp h5 h8 := (k6.trans k7).trans k8
 have k68 : Kp h6 h8 := k7.trans k8
 have hn3 := k3.le
 have hn4 := k4.le
 have hn5 := k5.le
 have hn6 := k6.le
 have hn7 := k7.le
 have WL : LW h8 ⟨p, qd, g, pl, el, sl, nl, L, h.nxt :: ks, ps, emp⟩ := by
  refine ⟨k38.wf, S.ke k38, D, G5.kp k58, (PA.kp (k4.trans k5)).kp k58, E6, k68.get g6, k8.get g7, g8, fun l hl => ?_⟩
  obtain ⟨h1, h2, h3⟩ := hap l hl
  obtain ⟨l1, l2, l3, l4, l5, l6⟩ := LN
  refine ⟨⟨by show l ≠ L.ln; lia, by show l ≠ L.lr; lia, by show l ≠ L.lb; lia, by show l ≠ L.lo; lia, by show l ≠ L.lw; lia, fun hm => by have := l6 l hm; lia⟩, by show l ≠ pl; lia, fun hm => ?_, by show l ≠ el; lia, by show l ≠ sl; lia, by show l ≠ nl; lia⟩
  rcases List.mem_cons.mp hm with rfl | hm
  ·lia
  ·exact h3 hm
 have he : SubE (lwF ⟨p, qd, g, pl, el, sl, nl, L, h.nxt :: ks, ps, emp⟩) e5 := .cons (.cons (.cons (.cons (.cons (.cons .nil (by first | exact e5p | exact e5a | exact e5g | exact e5e | exact e5s | exact e5n)) (by first | exact e5p | exact e5a | exact e5g | exact e5e | exact e5s | exact e5n)) (by first | exact e5p | exact e5a | exact e5g | exact e5e | exact e5s | exact e5n)) (by first | exact e5p | exact e5a | exact e5g | exact e5e | exact e5s | exact e5n)) (by first | exact e5p | exact e5a | exact e5g | exact e5e | exact e5s | exact e5n)) (by first | exact e5p | exact e5a | exact e5g | exact e5e | exact e5s | exact e5n)
 generalize hz : (⟨p, qd, g, pl, el, sl, nl, L, h.nxt :: ks, ps, emp⟩ : LL) = z at WL he
 refine sc_for ?_
 dsimp only [UC,UD,UE]
 refine q_int ⟨2, ⟨rfl, by unfold small; lia⟩, ?_⟩
 refine for_range (n := 2) (fun i e' h' => SubE (lwF z) e' ∧ LW h' z) (by lia) ?_ ?_ ⟨he, WL⟩
 ·rintro i e' h' hi ⟨he', W'⟩ K hK
  exact q_lap W' (he'.upd (y := .lap) (w := .int (i : Int)) rfl) fun e6 h9 he6 k9 S9 => hK _ _ ⟨he6, W'.ke k9 S9⟩
 ·rintro e' h' _
  refine sc_ret ?_
  dsimp only [EA,EB,EC,ED,EE,EF,EG,EH,EI,EJ,EK,EL,EM,EN,EO,EP,EQ,ER,ES,ET,EU,EV,EW,EX,EY,EZ,Ea,Eb,Ec]
theorem law_run {a : Nat} {ns : List Int} (w : Wf h) (ho : h.old a = some ns) (hl : ns.length ≤ 63) (hs : e .script = some (.old a)) : wSs (CL prog (n + 3)) body_law e h (fun fl _ _ => fl = .ret (.bool true)) := by
 show wSs _ (.cons (.assign .pen _) _) e h _
 refine sc_assign (q_call ?_)
 dsimp only [UA,UB]
 refine r_var hs (sp_law_pen w ho hl fun h1 p qd k1 S1 => ?_)
 have e1p : upd e .pen (.loc p) .pen = _ := upd_eq
 show wSs _ _ _ _ _
 generalize upd e .pen (.loc p) = e1 at e1p
 refine sc_assign (q_call ?_)
 dsimp only [UA,UB]
 refine r_var e1p (sp_law_pairs k1.wf S1 fun h2 N ps ks k2 S2 P2 hN hks D hps hpp => ?_)
 have e2p : upd e1 .drawn (.loc N) .pen = _ := (upd_ne (by decide)).trans e1p
 have e2d : upd e1 .drawn (.loc N) .drawn = _ := upd_eq
 show wSs _ _ _ _ _
 generalize upd e1 .drawn (.loc N) = e2 at e2p e2d
 have hpen : ∀ l, PenW p qd l → l < h1.nxt := fun l hw => by
  obtain ⟨ms, c, d, g1, g2, _⟩ := S1.ex
  rcases hw with rfl | rfl
  ·exact k1.wf.lt g1
  ·exact k1.wf.lt g2
 refine sc_ite ?_
 dsimp only [JA,JB,JC,JD,JE,JF,JG]
 refine q_draw (m := 2) k2.wf S2 (by lia) (by lia) e2p (fun P q => q_int q) fun h3 r k3 S3 hr => q_int ⟨decide ((r : Int) = 0), rfl, ?_⟩
 have P3 : PAt h3 N ps ks := P2.ke k3 (fun hw => by have := hpen _ hw; lia) fun x hx hw => by have := hpen _ hw; have := hks x hx; lia
 have hn3 := k3.le
 have hn2 := k2.le
 by_cases h0 : (r : Int) = 0
 ·refine (if_pos (decide_eq_true h0)).mpr ?_
  refine sc_assign (q_bin (r_var e2d (q_list ?_)))
  dsimp only [UA,UB,EA,EB,EC,ED,EE,EF,EG,EH,EI,EJ,EK,EL,EM,EN,EO,EP,EQ,ER,ES,ET,EU,EV,EW,EX,EY,EZ,Ea,Eb,Ec]
  have j1 : Kp h3 (h3.new (.list [V.str .S, V.str .T])) := (Ke.refl k3.wf).new _
  have j2 : Kp h3 ((h3.new (.list [V.str .S, V.str .T])).new (.list [])) := j1.new _
  have j3 : Kp h3 (((h3.new (.list [V.str .S, V.str .T])).new (.list [])).new (.list [V.tup [.str .S, .loc h3.nxt], V.tup [.str .T, .loc (h3.new (.list [V.str .S, V.str .T])).nxt]])) := j2.new _
  refine ⟨by simp, [.str .S, .loc h3.nxt], ⟨rfl, by simp⟩, by simp, [.str .T, .loc (h3.new (.list [V.str .S, V.str .T])).nxt], ⟨rfl, by simp⟩, by simp, _, _, ⟨j3.get P3.at_, get_new .., by rw [PAt.zlen P3]; simp only [room, List.length_cons, List.length_nil]; lia⟩, ?_⟩
  have j4 := j3.new (.list (((ps.zip ks).map fun x => V.tup [.str x.1.1, .loc x.2]) ++ [V.tup [.str .S, .loc h3.nxt], V.tup [.str .T, .loc (h3.new (.list [V.str .S, V.str .T])).nxt]]))
  have g1 := get_new_of j3.wf (.list (((ps.zip ks).map fun x => V.tup [.str x.1.1, .loc x.2]) ++ [V.tup [.str .S, .loc h3.nxt], V.tup [.str .T, .loc (h3.new (.list [V.str .S, V.str .T])).nxt]])) (get_new_of j2.wf (.list [V.tup [.str .S, .loc h3.nxt], V.tup [.str .T, .loc (h3.new (.list [V.str .S, V.str .T])).nxt]]) (get_new_of j1.wf (.list []) (get_new h3 (.list [V.str .S, V.str .T]))))
  have g2 := get_new_of j3.wf (.list (((ps.zip ks).map fun x => V.tup [.str x.1.1, .loc x.2]) ++ [V.tup [.str .S, .loc h3.nxt], V.tup [.str .T, .loc (h3.new (.list [V.str .S, V.str .T])).nxt]])) (get_new_of j2.wf (.list [V.tup [.str .S, .loc h3.nxt], V.tup [.str .T, .loc (h3.new (.list [V.str .S, V.str .T])).nxt]]) (get_new (h3.new (.list [V.str .S, V.str .T])) (.list [])))
  have g3 := get_new (((h3.new (.list [V.str .S, V.str .T])).new (.list [])).new (.list [V.tup [.str .S, .loc h3.nxt], V.tup [.str .T, .loc (h3.new (.list [V.str .S, V.str .T])).nxt]])) (.list (((ps.zip ks).map fun x => V.tup [.str x.1.1, .loc x.2]) ++ [V.tup [.str .S, .loc h3.nxt], V.tup [.str .T, .loc (h3.new (.list [V.str .S, V.str .T])).nxt]]))
  have nN : h3.nxt ≤ (((h3.new (.list [V.str .S, V.str .T])).new (.list [])).new (.list [V.tup [.str .S, .loc h3.nxt], V.tup [.str .T, .loc (h3.new (.list [V.str .S, V.str .T])).nxt]])).nxt := j3.le
  have nk : h3.nxt ≤ (h3.new (.list [V.str .S, V.str .T])).nxt := j1.le
  generalize ((((h3.new (.list [V.str .S, V.str .T])).new (.list [])).new (.list [V.tup [.str .S, .loc h3.nxt], V.tup [.str .T, .loc (h3.new (.list [V.str .S, V.str .T])).nxt]])).new (.list (((ps.zip ks).map fun x => V.tup [.str x.1.1, .loc x.2]) ++ [V.tup [.str .S, .loc h3.nxt], V.tup [.str .T, .loc (h3.new (.list [V.str .S, V.str .T])).nxt]]))) = h4 at j4 g1 g2 g3
  generalize (((h3.new (.list [V.str .S, V.str .T])).new (.list [])).new (.list [V.tup [.str .S, .loc h3.nxt], V.tup [.str .T, .loc (h3.new (.list [V.str .S, V.str .T])).nxt]])).nxt = N4 at g3 nN ⊢
  generalize (h3.new (.list [V.str .S, V.str .T])).nxt = k4 at g2 g3 nk
  clear j1 j2 j3
  have hzip : (ps ++ [(Nm.S, [Nm.S, Nm.T]), (Nm.T, [])]).zip (ks ++ [h3.nxt, k4]) = ps.zip ks ++ [((Nm.S, [Nm.S, Nm.T]), h3.nxt), ((Nm.T, []), k4)] := by rw [List.zip_append P3.len.symm]; rfl
  have P4 : PAt h4 N4 (ps ++ [(.S, [.S, .T]), (.T, [])]) (ks ++ [h3.nxt, k4]) := by
   refine ⟨?_, by simp [P3.len], fun i p' k' h1 h2 => ?_⟩
   ·rw [hzip, List.map_append]; exact g3
   ·have := lt_of_get h1
    rw [List.getElem?_append] at h1 h2
    by_cases hi : i < ps.length
    ·rw [if_pos hi] at h1
     rw [if_pos (by rw [P3.len]; exact hi)] at h2
     exact Kp.get j4 (P3.part i p' k' h1 h2)
    ·rw [if_neg hi] at h1
     rw [if_neg (by rw [P3.len]; exact hi), P3.len] at h2
     simp only [List.length_append, List.length_cons, List.length_nil] at this
     obtain h5 | h5 : i - ps.length = 0 ∨ i - ps.length = 1 := by lia
     ·rw [h5] at h1 h2; simp at h1 h2; subst h1; subst h2; exact g1
     ·rw [h5] at h1 h2; simp at h1 h2; subst h1; subst h2; exact g2
  have D4 : Drawn (ps ++ [(.S, [.S, .T]), (.T, [])]) := by
   refine ⟨fun p' hp' => ?_, fun p' hp' x hx => ?_, by simp; lia, fun p' hp' => ?_, ?_⟩
   ·rcases List.mem_append.mp hp' with hp' | hp'
    ·exact D.left p' hp'
    ·simp at hp'; rcases hp' with rfl | rfl
     ·exact .inl rfl
     ·exact .inr (.inl rfl)
   ·rcases List.mem_append.mp hp' with hp' | hp'
    ·rcases D.part p' hp' x hx with h5 | h5
     ·exact .inl h5
     ·exact .inr (by rw [List.map_append]; exact List.mem_append_left _ h5)
    ·simp at hp'; rcases hp' with rfl | rfl
     ·simp at hx; rcases hx with rfl | rfl <;> exact .inr (by simp)
     ·simp at hx
   ·rcases List.mem_append.mp hp' with hp' | hp'
    ·exact D.plen p' hp'
    ·simp at hp'; rcases hp' with rfl | rfl <;> simp
   ·obtain ⟨qs, rs, he⟩ := D.head
    exact ⟨qs, rs ++ [(.S, [.S, .T]), (.T, [])], by rw [he]; rfl⟩
  dsimp only [UF,UG]
  refine q_tail (p := p) (qd := qd) (ps := ps ++ [(.S, [.S, .T]), (.T, [])]) (ks := ks ++ [h3.nxt, k4]) j4.wf (S3.ke j4) P4 D4 (fun l hw => ?_) ((upd_ne (by decide)).trans e2p) upd_eq
  have h6 := hpen l hw
  have h7 := j4.le
  refine ⟨by lia, by lia, fun hm => ?_⟩
  rcases List.mem_append.mp hm with hm | hm
  ·have := hks l hm; lia
  ·simp at hm; rcases hm with rfl | rfl <;> lia
 ·refine (if_neg (by rw [decide_eq_false h0]; simp)).mpr ?_
  dsimp only [UF,UG]
  refine q_tail (p := p) (qd := qd) (ps := ps) (ks := ks) k3.wf S3 P3 D (fun l hw => ?_) e2p e2d
  have h6 := hpen l hw
  refine ⟨by lia, by lia, fun hm => ?_⟩
  have := hks l hm; lia
end
end Mine
end
section
namespace Mine
theorem law_mini (a : Nat) (ns : List Int) (h : ns.length ≤ 63) : ∃ n, n ≤ 8 ∧ wSs (CL prog n) body_law (me0 a) (mh0 a ns) (fun fl _ _ => fl = .ret (.bool true)) :=
 ⟨3, by lia, law_run (n := 0) (a := a) (ns := ns) (fun _ _ => rfl) (if_pos rfl) h rfl⟩
end Mine
end
open PySem PySem.W PyProof.Rows
set_option maxHeartbeats 8000000 in
theorem PySem.Challenge.cw_pq0571_01_holds : PySem.Challenge.rw_pq0571_01.Holds := by
 w_on
 refine holds_law Mine.said0 fun said => ?_
 refine holds_open (q := Mine.viewP) (loose := Mine.looseP) (Xt := fun s => xlAt Mine.viewP [] s && recOk (RowW.records PySem.Challenge.rw_pq0571_01.row.toRowW) s) (XP := XL Mine.viewP []) (Yf := Hook.obs Mine.hookP) (Ya := Hook.val Mine.hookP) (YP := Hook.says Mine.hookP) (N := 3736) Mine.left0 (Hook.of Mine.hookP) (Hook.keeps Mine.hookP) (fun s e => xl_of s (Bool.and_eq_true_iff.mp e).1) XL.keeps (by rfl) (by rfl) (by rfl) (fun s e => recFacts_of (Bool.and_eq_true_iff.mp e).2) (by rfl) (by assumption) (by decide +kernel) ⟨rfl, rfl, rfl, rfl, rfl, by decide +kernel⟩ ?hw ?hc
 case hw => w_witness2
 w_strict (
  intro w s₀ s₁ mg mb G Y fa o pm cd doc dV kV ho hd hcd hD hmg hg args vals as hpre hlay hrd hwl hlo
  have KX := kIn_of Y
  have X := (Ground.X G).1
  have V := (Ground.X G).2
  refine Ground.open G ?_
  intro T B D TE TW
  try (refine guard_noD D (by decide +kernel) ?_; clear D)
  obtain ⟨_, _, M⟩ := bmod_of_top T
  have TA := at_of_top T
  try (obtain ⟨_, _, he, B0⟩ := based_of_top T rfl hmg ho hd; have he' : cd = _ := he; subst he'; clear he)
  clear hmg
  wrow_args hpre hlay hrd hwl hlo
  all_goals (
   first | refine callC_kw (enter_call ?_) | refine enter_call ?_ | refine callC_kw (enter_callW ?_) | refine enter_callW ?_ | w_how
   w_top on
   try refine codeAny_mono ?_ (fun _ _ g => GoodW.toG g)
   have he := Dflts.none hD rfl
   subst he
   have he := Dflts.noKw hD
   subst he
   refine call_cellsN (by decide) ho (fd_plain hd) (Top.nolimit T) hcd rfl (kinds_of (by kinds_ok)) (by decide) fun h₁ tk₁ cells F N0 X0 => ?_
   rename IntsAre _ _ => hI
   rename Heap.IsList _ _ _ => hL
   rename ¬ (_ < _) => hlen
   refine Mine.finish KX (topRead_of T) hg hL hI F rfl N0 X0 (Mine.law_mini _ _ (by omega)) fun s' hk hg' hos => ?_
   show GoodW _ _ _ _ _ _ _
   exact ⟨.inl ⟨_, .bool true, [], rfl, raisesW_false (by wrow_none_raised), .bool true, (by wrow_post), unshared_nil⟩, hk, hos, hg'⟩))
