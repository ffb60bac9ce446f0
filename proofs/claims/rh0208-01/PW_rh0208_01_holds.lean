import PyProof.Rows.All
import Wide.All
import OpenK.AllK
import Wide.FinOn
import PySem.Challenge.RW_rh0208_01
set_option Elab.async false
section
open PySem PySem.W PyProof.Rows
set_option Elab.async false
set_option maxRecDepth 100000
set_option maxHeartbeats 8000000
namespace Mine
def viewOf (p : Program) (ks : List Nat) : Program := { p with main := { p.main with body := ks.filterMap fun i => p.main.body[i]? } }
def vw : Program := viewOf PySem.Challenge.pw_rh0208_01 [0, 2, 3, 4, 6, 7, 9, 11, 12, 13, 14, 15, 16, 18, 19, 20, 21]
local macro_rules | `(tactic| o_law) => `(tactic| refine holds_law (by rw [PySem.W.Fast.te9446332074065402090]; decide +kernel) fun said => ?_)
set_option hygiene false in
local macro_rules | `(tactic| o_head $H) => `(tactic| (
  refine holds_open (q := vw) (loose := [Str.ofString "newer_of", Str.ofString "NUMBERS"]) (Xt := fun s => xlAt vw [(Str.ofString "NUMBERS", WData.int 4294967296)] s && recOk (RowW.records (OpenRow.toRowW PySem.Challenge.rw_rh0208_01.row)) s) (XP := XL vw [(Str.ofString "NUMBERS", WData.int 4294967296)]) (Yf := Hook.obs $H) (Ya := Hook.val $H) (YP := Hook.says $H) (N := 2856) ?hl (Hook.of $H) (Hook.keeps $H) (fun s e => xl_of s (Bool.and_eq_true_iff.mp e).1) XL.keeps (by rfl) (by rfl) (by rfl) (fun s e => recFacts_of (Bool.and_eq_true_iff.mp e).2) (by rfl) (by first | assumption | decide +kernel) (by decide +kernel) ⟨rfl, rfl, rfl, rfl, rfl, by decide +kernel⟩ ?hw ?hc
  case hl =>
    intro w
    unfold openEnds topFrom fencedOpening
    (try rw [PySem.W.Fast.te14364793385776592824])
    (try rw [PySem.W.Fast.te14082659384304107361])
    (try rw [PySem.W.Fast.te4187177175401517315])
    (try rw [PySem.W.Fast.te5923862056798008813])
    (try rw [PySem.W.Fast.te8920871248978507458])
    (try rw [PySem.W.Fast.te10274390034422433532])
    (try rw [PySem.W.Fast.te1435165496053646825])
    (try rw [PySem.W.Fast.te14289696077712309145])
    kernel_rfl))
open_top hd for PySem.Challenge.rw_rh0208_01
end Mine

end
section
open PySem PySem.W PyProof.Rows
set_option Elab.async false
set_option genSizeOfSpec false
namespace Mine

inductive V where
  | none | bool (b : Bool) | int (i : Int) | str (s : Str)
  | tup (l : List V) | lst (l : List V) | obj (i : Nat) | top (v : Value) | lam | rng (n : Nat)
  deriving Inhabited

inductive MO where
  | inst (attrs : List (Str × V))
  | dict (es : List (List Int × V))
  | list (l : List V)

abbrev St := List MO
abbrev Rho := Str → Option V
noncomputable def Rho.put (ρ : Rho) (x : Str) (v : V) : Rho := fun y => if y = x then some v else ρ y

inductive Fl where
  | next | brk | ret (v : V)

noncomputable def aget : List (Str × V) → Str → Option V
  | [], _ => none
  | (y, v) :: r, x => if y = x then some v else aget r x
noncomputable def aput : List (Str × V) → Str → V → List (Str × V)
  | [], x, v => [(x, v)]
  | (y, u) :: r, x, v => if y = x then (y, v) :: r else (y, u) :: aput r x v
noncomputable def truth : V → Option Bool
  | .bool b => some b
  | _ => none

noncomputable def pis : List V → Option (List PyData)
  | [] => some []
  | .int i :: r => match pis r with | some e => some (.int i :: e) | none => none
  | _ => none
-- the plain data that a value is, the written lists opened
mutual
noncomputable def pd (σ : St) : V → Option PyData
  | .none => some .none
  | .bool b => some (.bool b)
  | .int i => some (.int i)
  | .str s => some (.str s)
  | .tup l => match pds σ l with | some d => some (.tuple d) | none => none
  | .lst l => match pds σ l with | some d => some (.list d) | none => none
  | .obj i => match σ[i]? with
    | some (.list l) => match pfs l with | some d => some (.list d) | none => none
    | _ => none
  | _ => none
noncomputable def pds (σ : St) : List V → Option (List PyData)
  | [] => some []
  | v :: r => match pd σ v with
    | some d => match pds σ r with | some e => some (d :: e) | none => none
    | none => none
noncomputable def pfs : List V → Option (List PyData)
  | [] => some []
  | .str s :: r => match pfs r with | some e => some (.str s :: e) | none => none
  | .tup l :: r => match pis l with
    | some d => match pfs r with | some e => some (.tuple d :: e) | none => none
    | none => none
  | _ => none
end

noncomputable def cmpV (σ : St) (op : CmpOp) (a b : V) : Option Bool := match op with
  | .Eq => match pd σ a, pd σ b with
    | some d, some e => if SeqAt.shaped d && SeqAt.shaped e then some (PyData.eqv d e) else none
    | _, _ => none
  | .NotEq => match pd σ a, pd σ b with
    | some d, some e => if SeqAt.shaped d && SeqAt.shaped e then some (!PyData.eqv d e) else none
    | _, _ => none
  | .Lt => match a, b with | .int x, .int y => some (decide (x < y)) | _, _ => none
  | .Gt => match a, b with | .int x, .int y => some (decide (y < x)) | _, _ => none
  | .LtE => match a, b with | .int x, .int y => some (decide (x ≤ y)) | _, _ => none
  | .GtE => match a, b with | .int x, .int y => some (decide (y ≤ x)) | _, _ => none
  | .Is => match a, b with | .none, .none => some true | .tup _, .none => some false | _, _ => none
  | .IsNot => match a, b with | .none, .none => some false | .tup _, .none => some true | _, _ => none
  | _ => none

noncomputable def lcap : Nat := 16000
noncomputable def binV (op : Operator) (a b : V) : Option V := match a, b with
  | .int x, .int y => match op with
    | .Add => some (.int (x + y))
    | .Sub => some (.int (x - y))
    | .Mod => if y = 0 then none else some (.int (x.fmod y))
    | .FloorDiv => if 0 < y ∧ y < 1000 ∧ 0 ≤ x ∧ x < 1000 then some (.int (x.fdiv y)) else none
    | .Mult => if 0 ≤ x ∧ x < 1000 ∧ 0 ≤ y ∧ y < 1000 then some (.int (x * y)) else none
    | .Pow => if 0 ≤ x ∧ x < 1000 ∧ 0 ≤ y ∧ y < 100 then some (.int (x ^ y.toNat)) else none
    | .BitAnd => some (.int (Builtin.bitAnd x y))
    | .BitOr => some (.int (Builtin.bitOr x y))
    | _ => none
  | .lst x, .lst y => match op with
    | .Add => if x.length + y.length ≤ lcap then some (.lst (x ++ y)) else none
    | _ => none
  | .lst x, .int y => match op with
    | .Mult => if y = 2 ∧ x.length ≤ 100 then some (.lst (x ++ x)) else none
    | _ => none
  | _, _ => none

noncomputable def natOf : V → Option Nat
  | .int (.ofNat n) => some n
  | _ => none
noncomputable def itemV (σ : St) (o i : V) : Option V := match natOf i with
  | some n => match o with
    | .tup l => l[n]?
    | .lst l => l[n]?
    | .obj k => match σ[k]? with | some (.list l) => l[n]? | _ => none
    | _ => none
  | none => none
/-- a part of a slice: none there, or an int of 0 or more -/
noncomputable def partV : V → Option (Option Nat)
  | .none => some none
  | .int (.ofNat n) => some (some n)
  | _ => none
noncomputable def cutL (l : List V) (lo hi : Option Nat) : List V :=
  (match hi with | some b => l.take b | none => l).drop (lo.getD 0)
noncomputable def cutV (o lo hi : V) : Option V := match partV lo, partV hi with
  | some a, some b => match o with
    | .tup l => match a, b with
      | some a, some b => if 1 ≤ a ∧ a ≤ b ∧ b ≤ l.length then some (.tup ((l.drop a).take (b - a))) else none
      | _, _ => none
    | .lst l => some (.lst (cutL l a b))
    | _ => none
  | _, _ => none

noncomputable def intsV : List V → Option (List Int)
  | [] => some []
  | .int i :: r => match intsV r with | some e => some (i :: e) | none => none
  | _ => none
/-- ascending, each below the next one, word by word -/
noncomputable def lexlt : List Int → List Int → Bool
  | [], [] => false
  | [], _ :: _ => true
  | _ :: _, [] => false
  | a :: r, b :: s => if a < b then true else if a = b then lexlt r s else false
noncomputable def ascK : List (List Int) → Bool
  | a :: b :: r => lexlt a b && ascK (b :: r)
  | _ => true

noncomputable def keyV (k : List Int) : V := .tup (k.map .int)

noncomputable def biV (σ : St) (f : Value) (args : List V) : Option V := match f with
  | .builtin n => if n = "len" then match args with
      | [.tup l] => some (.int l.length)
      | [.lst l] => some (.int l.length)
      | [.obj i] => match σ[i]? with | some (.dict es) => some (.int es.length) | some (.list l) => some (.int l.length) | _ => none
      | _ => none
    else if n = "abs" then match args with
      | [.int i] => some (.int i.natAbs)
      | _ => none
    else if n = "sorted" then match args with
      | [.obj i] => match σ[i]? with
        | some (.dict es) => if ascK (es.map (·.1)) && ((es.map (·.1)).all fun k => !k.isEmpty) && decide (es.length ≤ 6) then some (.lst (es.map fun e => keyV e.1)) else none
        | _ => none
      | _ => none
    else none
  | .type n => if n = "tuple" then match args with
      | [.lst l] => some (.tup l)
      | _ => none
    else if n = "list" then match args with
      | [.lst l] => some (.lst l)
      | [.obj i] => match σ[i]? with | some (.list l) => some (.lst l) | _ => none
      | _ => none
    else if n = "range" then match args with
      | [.int (.ofNat k)] => if k ≤ 100 then some (.rng k) else none
      | _ => none
    else none
  | _ => none

noncomputable def glT : List (Str × V) := [("MASTER", .int 1), ("MORE", .int 2), ("INIT", .int 4), ("NUMBERS", .int 4294967296), ("EXTERNAL", .int 5), ("GREATEST_KIND", .int 5), ("barred", .top (.ref 28)), ("key_of", .top (.ref 43)), ("Describing", .top (.ref 81)), ("Exchange", .top (.ref 191)), ("_law_take", .top (.ref 200)), ("_law_heads", .top (.ref 205)), ("_law_is_mismatch", .top (.ref 212)), ("len", .top (.builtin "len")), ("abs", .top (.builtin "abs")), ("sorted", .top (.builtin "sorted")), ("tuple", .top (.type "tuple")), ("list", .top (.type "list")), ("range", .top (.type "range"))]
noncomputable def gl (x : Str) : Option V := aget glT x
/-- the methods of an Exchange -/
noncomputable def nget : List (Str × Nat) → Str → Option Nat
  | [], _ => none
  | (y, v) :: r, x => if y = x then some v else nget r x
noncomputable def methT : List (Str × Nat) := [("begin", 106), ("take", 113), ("is_double", 120), ("is_wrong", 127), ("take_first", 134), ("take_next", 141), ("led", 148), ("followed", 155), ("ended", 162), ("first", 64), ("next_packet", 71), ("has_told_all", 78)]
noncomputable def meth (x : Str) : Option Nat := nget methT x
noncomputable def attrOk (x : Str) : Bool :=
  x = "mtu" || x = "options" || x = "portion" || x = "is_master" || x = "seq" || x = "left" || x = "sent" || x = "own" || x = "other" || x = "stage" || x = "met" || x = "requests"

/-- the written lists that are changed in place: by their place in the text -/
noncomputable def mutAt (p : Pos) : Bool := (p.line == 163 && p.col == 10) || (p.line == 169 && (p.col == 49 || p.col == 53))

noncomputable def nm (sc : Scope) (ρ : Rho) (x : Str) : Option V := match x == ("__debug__" : Str) with
  | true => none
  | false => match sc.names.lookup x with
    | some .globalImplicit => gl x
    | some .local => ρ x
    | some .cell => ρ x
    | some .free => match x == ("__classdict__" : Str) with
      | true => none
      | false => ρ x
    | _ => none

noncomputable def tgt : List Comprehension → Option Str
  | [⟨.Name x _, _, _, a⟩] => if a = 0 then some x else none
  | _ => none
noncomputable def relab (sc outer : Scope) : Scope :=
  { sc with names := sc.names.map fun (n, k) => if (k == .free && outer.kind == .function && outer.names.lookup n == some .cell) then (n, .cell) else (n, k) }
/-- a comprehension's scope that is within the machine -/
noncomputable def compOk (cs sc : Scope) (x : Str) : Bool :=
  cs.kind == .function && cs.names.lookup x == some .local && cs.names.all fun (y, k) => match k with
    | .local => cs.names.lookup y == some .local && !(decide (y = ("talk" : Str)))
    | .free => cs.names.lookup y == some .free && (sc.names.lookup y == some .cell || sc.names.lookup y == some .free)
    | .globalImplicit => true
    | _ => false
noncomputable def inner (sc : Scope) (ρ : Rho) (x : Str) (v : V) : Rho := fun y => if y = x then some v else match sc.names.lookup y with
  | some .free => ρ y
  | _ => none

/-- what an iterator over the value gives at place i: some none is its end -/
noncomputable def getAt (σ : St) (it : V) (i : Nat) : Option (Option V) := match it with
  | .tup l => some l[i]?
  | .lst l => some l[i]?
  | .rng n => some (if i < n then some (.int (Int.ofNat i)) else none)
  | .obj j => match σ[j]? with
    | some (.list l) => some l[i]?
    | _ => none
  | _ => none
noncomputable def loopC (f : V → St → Option (Option V × St)) (it : V) (k : Nat) : Nat → Nat → St → Option (V × St)
  | 0, _, _ => none
  | fuel + 1, i, σ => match getAt σ it i with
    | none => none
    | some none => some (.obj k, σ)
    | some (some v) => match f v σ with
      | some (some u, σ') => match σ'[k]? with
        | some (.list l) => if l.length < 1000 then loopC f it k fuel (i + 1) (σ'.set k (.list (l ++ [u]))) else none
        | _ => none
      | some (none, σ') => loopC f it k fuel (i + 1) σ'
      | none => none
noncomputable def lfuel : Nat := 1001
noncomputable def loopS (f : V → Rho → St → Option (Fl × Rho × St)) : List V → Rho → St → Option (Fl × Rho × St)
  | [], ρ, σ => some (.next, ρ, σ)
  | v :: r, ρ, σ => match f v ρ σ with
    | some (.next, ρ', σ') => loopS f r ρ' σ'
    | some (.brk, ρ', σ') => some (.next, ρ', σ')
    | some (.ret u, ρ', σ') => some (.ret u, ρ', σ')
    | none => none
noncomputable def itemsV : V → Option (List V)
  | .tup l => some l
  | .lst l => some l
  | .rng n => some ((List.range n).map fun (i : Nat) => V.int (Int.ofNat i))
  | _ => none

abbrev Oracle := Nat → List V → St → Option (V × St)

noncomputable def names2 (sc : Scope) : List Expr → Option (List Str)
  | [] => some []
  | .Name x _ :: r => match sc.names.lookup x with
    | some .local => match names2 sc r with | some l => some (x :: l) | none => none
    | _ => none
  | _ => none
noncomputable def nodupS : List Str → Bool
  | [] => true
  | x :: r => !(r.any fun y => decide (y = x)) && nodupS r

noncomputable def isNone : Expr → Bool
  | .Constant .none _ _ => true
  | _ => false
noncomputable def onlyArg : List Arg → Option Str
  | [a] => if a.annotation.isNone then some a.arg else none
  | _ => none
/-- a lambda of one parameter that gives None -/
noncomputable def lamB (ps : Arguments) (body : Expr) (ls : Scope) : Bool :=
  ps.posonlyargs.isEmpty && ps.vararg.isNone && ps.kwonlyargs.isEmpty && ps.kw_defaults.isEmpty && ps.kwarg.isNone && ps.defaults.isEmpty && isNone body &&
  (ls.kind == .function && !ls.isGenerator && !ls.isCoroutine && ls.more.isEmpty && match onlyArg ps.args with | some p => decide (ls.names = [(p, .local)]) | none => false)
noncomputable def noTop : V → Bool
  | .top _ => false
  | _ => true
noncomputable def baseOk : Expr → Bool
  | .Name .. => true
  | .Attribute .. => true
  | .Subscript .. => true
  | _ => false

mutual
noncomputable def evE (C : Oracle) : Expr → Scope → Rho → St → Option (V × St)
  | .Constant c _ _, _, _, σ => match c with
    | .none => some (.none, σ)
    | .bool b => some (.bool b, σ)
    | .int i => some (.int i, σ)
    | .str s => some (.str s, σ)
    | _ => none
  | .Name x _, sc, ρ, σ => match nm sc ρ x with | some v => some (v, σ) | none => none
  | .BoolOp op vs _, sc, ρ, σ => evO C op vs sc ρ σ
  | .BinOp l op r _, sc, ρ, σ => match evE C l sc ρ σ with
    | some (a, σ) => match evE C r sc ρ σ with
      | some (b, σ) => match binV op a b with | some v => some (v, σ) | none => none
      | none => none
    | none => none
  | .UnaryOp op x _, sc, ρ, σ => match op with
    | .Not => match evE C x sc ρ σ with
      | some (v, σ) => match truth v with | some b => some (.bool (!b), σ) | none => none
      | none => none
    | _ => none
  | .Lambda ps body ls _, sc, _, σ => if lamB ps body ls then (match sc.names.lookup ("talk" : Str) with | some .local => some (.lam, σ) | _ => none) else none
  | .IfExp t b o _, sc, ρ, σ => match evT C t sc ρ σ (evE C t sc ρ σ) with
    | some (true, σ) => evE C b sc ρ σ
    | some (false, σ) => evE C o sc ρ σ
    | none => none
  | .Dict ks vs _, _, _, σ => match ks, vs with
    | [], [] => some (.obj σ.length, σ ++ [.dict []])
    | _, _ => none
  | .ListComp elt gens cs _, sc, ρ, σ => match tgt gens with
    | some x => if compOk cs sc x then (match evG C gens sc ρ σ with
      | some (it, σ) => loopC (fun v σ => match evI C gens (relab cs sc) (inner cs ρ x v) σ with
            | some (true, σ) => match evE C elt (relab cs sc) (inner cs ρ x v) σ with
              | some (u, σ) => some (some u, σ)
              | none => none
            | some (false, σ) => some (none, σ)
            | none => none) it σ.length lfuel 0 (σ ++ [.list []])
      | none => none) else none
    | none => none
  | .Compare l ops rs _, sc, ρ, σ => match ops, rs with
    | [op], [r] => match evE C l sc ρ σ with
      | some (a, σ) => match evE C r sc ρ σ with
        | some (b, σ) => match cmpV σ op a b with | some c => some (.bool c, σ) | none => none
        | none => none
      | none => none
    | _, _ => none
  | .Call f args ks pos, sc, ρ, σ => match ks with
    | [] => match f with
      | .Name x _ => match nm sc ρ x with
        | some (.top u) => match evEs C args sc ρ σ with
          | some (vs, σ) => match u with
            | .ref a => if a = 191 then (match C 99 (.obj σ.length :: vs) (σ ++ [.inst []]) with
                | some (.none, σ') => some (.obj σ.length, σ')
                | _ => none) else C a vs σ
            | u => match biV σ u vs with | some v => some (v, σ) | none => none
          | none => none
        | some .lam => match evEs C args sc ρ σ with
          | some ([_], σ) => some (.none, σ)
          | _ => none
        | _ => none
      | .Attribute o name apos => if baseOk o && apos.endLine == pos.line && decide (args.length < 30) then (match evE C o sc ρ σ with
        | some (.obj i, σ) => match σ[i]? with
          | some (.inst attrs) => match meth name with
            | some a => match aget attrs name with
              | none => match evEs C args sc ρ σ with
                | some (vs, σ) => C a (.obj i :: vs) σ
                | none => none
              | some _ => none
            | none => none
          | some (.list l) => if name = "extend" then (match evEs C args sc ρ σ with
              | some ([.lst k], σ') => match σ'[i]? with
                | some (.list l') => if l'.length + k.length ≤ 1000 then some (.none, σ'.set i (.list (l' ++ k))) else none
                | _ => none
              | _ => none) else none
          | _ => none
        | some (.top (.ref 81), σ) => if name = "__init__" then (match evEs C args sc ρ σ with
            | some (vs, σ) => C 57 vs σ
            | none => none) else none
        | _ => none) else none
      | _ => none
    | _ => none
  | .Attribute o name _, sc, ρ, σ => if baseOk o then (match evE C o sc ρ σ with
    | some (.obj i, σ) => match σ[i]? with
      | some (.inst attrs) => if attrOk name then (match aget attrs name with | some v => if noTop v then some (v, σ) else none | none => none) else none
      | _ => none
    | _ => none) else none
  | .Subscript o (.Slice lo hi st _) _, sc, ρ, σ => match st with
    | none => match evE C o sc ρ σ with
      | some (a, σ) => match evP C lo sc ρ σ with
        | some (u, σ) => match evP C hi sc ρ σ with
          | some (v, σ) => match cutV a u v with | some r => some (r, σ) | none => none
          | none => none
        | none => none
      | none => none
    | some _ => none
  | .Subscript o i _, sc, ρ, σ => match evE C o sc ρ σ with
    | some (a, σ) => match evE C i sc ρ σ with
      | some (b, σ) => match itemV σ a b with | some v => some (v, σ) | none => none
      | none => none
    | none => none
  | .List es p, sc, ρ, σ => match evEs C es sc ρ σ with
    | some (vs, σ) => if vs.length < 100 then (if mutAt p then some (.obj σ.length, σ ++ [.list vs]) else some (.lst vs, σ)) else none
    | none => none
  | .Tuple es _ _, sc, ρ, σ => match evEs C es sc ρ σ with
    | some (vs, σ) => if vs.length < 100 then some (.tup vs, σ) else none
    | none => none
  | _, _, _, _ => none

noncomputable def evEs (C : Oracle) : List Expr → Scope → Rho → St → Option (List V × St)
  | [], _, _, σ => some ([], σ)
  | e :: r, sc, ρ, σ => match evE C e sc ρ σ with
    | some (v, σ) => match evEs C r sc ρ σ with
      | some (vs, σ) => some (v :: vs, σ)
      | none => none
    | none => none

noncomputable def evP (C : Oracle) : Option Expr → Scope → Rho → St → Option (V × St)
  | none, _, _, σ => some (.none, σ)
  | some e, sc, ρ, σ => evE C e sc ρ σ

/-- and, or, as a value -/
noncomputable def evO (C : Oracle) : BoolOp → List Expr → Scope → Rho → St → Option (V × St)
  | _, [], _, _, _ => none
  | op, e :: r, sc, ρ, σ => match evE C e sc ρ σ with
    | some (v, σ') => match r with
      | [] => some (v, σ')
      | _ :: _ => match truth v with
        | some true => match op with | .And => evO C op r sc ρ σ' | .Or => some (v, σ')
        | some false => match op with | .And => some (v, σ') | .Or => evO C op r sc ρ σ'
        | none => none
    | none => none

noncomputable def evG (C : Oracle) : List Comprehension → Scope → Rho → St → Option (V × St)
  | ⟨_, iter, _, _⟩ :: _, sc, ρ, σ => evE C iter sc ρ σ
  | [], _, _, _ => none
noncomputable def evI (C : Oracle) : List Comprehension → Scope → Rho → St → Option (Bool × St)
  | ⟨_, _, ifs, _⟩ :: _, sc, ρ, σ => evA C .And ifs sc ρ σ
  | [], _, _, _ => none

/-- a test -/
noncomputable def evT (C : Oracle) : Expr → Scope → Rho → St → Option (V × St) → Option (Bool × St)
  | .UnaryOp .Not x _, sc, ρ, σ, _ => match evT C x sc ρ σ (evE C x sc ρ σ) with | some (b, σ) => some (!b, σ) | none => none
  | .BoolOp op vs _, sc, ρ, σ, _ => evA C op vs sc ρ σ
  | .IfExp .., _, _, _, _ => none
  | .Compare l ops rs _, sc, ρ, σ, _ => match ops, rs with
    | [op], [r] => match evE C l sc ρ σ with
      | some (a, σ) => match evE C r sc ρ σ with
        | some (b, σ) => match cmpV σ op a b with | some c => some (c, σ) | none => none
        | none => none
      | none => none
    | [op, op2], [r, r2] => match evE C l sc ρ σ with
      | some (a, σ) => match evE C r sc ρ σ with
        | some (b, σ) => match cmpV σ op a b with
          | some true => match evE C r2 sc ρ σ with
            | some (c, σ) => match cmpV σ op2 b c with | some d => some (d, σ) | none => none
            | none => none
          | some false => some (false, σ)
          | none => none
        | none => none
      | none => none
    | _, _ => none
  | _, _, _, _, whole => match whole with
    | some (v, σ) => match truth v with | some b => some (b, σ) | none => none
    | none => none

/-- and, or, in a test -/
noncomputable def evA (C : Oracle) : BoolOp → List Expr → Scope → Rho → St → Option (Bool × St)
  | op, [], _, _, σ => match op with | .And => some (true, σ) | .Or => some (false, σ)
  | op, e :: r, sc, ρ, σ => match evT C e sc ρ σ (evE C e sc ρ σ) with
    | some (true, σ) => match op with | .And => evA C op r sc ρ σ | .Or => some (true, σ)
    | some (false, σ) => match op with | .And => some (false, σ) | .Or => evA C op r sc ρ σ
    | none => none
end

noncomputable def binds (ps : List Arg) (vs : List V) : Rho := fun y => aget ((ps.map (·.arg)).zip vs) y
/-- swapped stores: none outside: not within the machine -/
noncomputable def swapS (sc : Scope) (ts : List Expr) (value : Expr) : Option (Option (List Str)) := match value with
  | .Tuple vs _ _ =>
    if !(ts.length == 2 || ts.length == 3) || vs.length != ts.length then some none
    else if (vs.any fun | .Starred .. => true | _ => false) then some none
    else if (ts.filterMap fun
        | .Name id pos => if sc.names.lookup id == some .local && pos.line == (ts.head?.map (·.pos.line)).getD 0 then some id else none
        | _ => none).length != ts.length || (ts.filterMap fun
        | .Name id pos => if sc.names.lookup id == some .local && pos.line == (ts.head?.map (·.pos.line)).getD 0 then some id else none
        | _ => none).eraseDups.length != (ts.filterMap fun
        | .Name id pos => if sc.names.lookup id == some .local && pos.line == (ts.head?.map (·.pos.line)).getD 0 then some id else none
        | _ => none).length then some none
    else if vs.all (foldedForSure 8) then some none
    else if vs.all (constantsAlone 8) then none
    else some (some (ts.filterMap fun
        | .Name id pos => if sc.names.lookup id == some .local && pos.line == (ts.head?.map (·.pos.line)).getD 0 then some id else none
        | _ => none))
  | _ => some none
noncomputable def putAll : List Str → List V → Rho → Option Rho
  | [], [], ρ => some ρ
  | x :: r, v :: s, ρ => putAll r s (ρ.put x v)
  | _, _, _ => none

mutual
/-- a store -/
noncomputable def evW (C : Oracle) : Expr → V → Scope → Rho → St → Option (Rho × St)
  | .Name x _, v, sc, ρ, σ => match sc.names.lookup x with
    | some .local => some (ρ.put x v, σ)
    | some .cell => some (ρ.put x v, σ)
    | _ => none
  | .Attribute o name _, v, sc, ρ, σ => match evE C o sc ρ σ with
    | some (.obj i, σ) => match σ[i]? with
      | some (.inst attrs) => if attrOk name && decide (attrs.length < 100) then some (ρ, σ.set i (.inst (aput attrs name v))) else none
      | _ => none
    | _ => none
  | .Subscript o k _, v, sc, ρ, σ => match evE C o sc ρ σ with
    | some (.obj i, σ) => match evE C k sc ρ σ with
      | some (kv, σ) => match σ[i]? with
        | some (.dict es) => match kv with
          | .tup l => match intsV l with
            | some ks => if es.any (fun e => decide (e.1 = ks)) || !(decide (es.length < 1000)) then none else some (ρ, σ.set i (.dict (es ++ [(ks, v)])))
            | none => none
          | _ => none
        | some (.list l) => match natOf kv with
          | some n => if n < l.length then some (ρ, σ.set i (.list (l.set n v))) else none
          | none => none
        | _ => none
      | none => none
    | _ => none
  | .Tuple ts _ _, v, sc, ρ, σ => match v with
    | .tup vs => if ts.length = vs.length then evWs C ts vs sc ρ σ else none
    | _ => none
  | _, _, _, _, _ => none
noncomputable def evWs (C : Oracle) : List Expr → List V → Scope → Rho → St → Option (Rho × St)
  | [], _, _, ρ, σ => some (ρ, σ)
  | t :: r, vs, sc, ρ, σ => match vs with
    | v :: s => match evW C t v sc ρ σ with
      | some (ρ, σ) => evWs C r s sc ρ σ
      | none => none
    | [] => none
end

mutual
noncomputable def evS (C : Oracle) : Stmt → Scope → Rho → St → Option (Fl × Rho × St)
  | .Assign ts e _, sc, ρ, σ => match ts with
    | [.Tuple us k p] => match swapS sc us e with
      | none => none
      | some (some xs) => match evE C e sc ρ σ with
        | some (.tup vs, σ) => if vs.length = xs.length then (match putAll xs.reverse vs.reverse ρ with | some ρ => some (.next, ρ, σ) | none => none) else none
        | _ => none
      | some none => match evE C e sc ρ σ with
        | some (v, σ) => match evW C (.Tuple us k p) v sc ρ σ with | some (ρ, σ) => some (.next, ρ, σ) | none => none
        | none => none
    | [t] => match evE C e sc ρ σ with
      | some (v, σ) => match evW C t v sc ρ σ with | some (ρ, σ) => some (.next, ρ, σ) | none => none
      | none => none
    | _ => none
  | .Expr e _, sc, ρ, σ => if (match e with | .ListComp .. => true | _ => false) then none else (match evE C e sc ρ σ with | some (_, σ) => some (.next, ρ, σ) | none => none)
  | .If t b o _, sc, ρ, σ => match evT C t sc ρ σ (evE C t sc ρ σ) with
    | some (true, σ) => evB C b sc ρ σ
    | some (false, σ) => evB C o sc ρ σ
    | none => none
  | .For t it b o _, sc, ρ, σ => match o with
    | [] => match evE C it sc ρ σ with
      | some (v, σ) => match itemsV v with
        | some l => loopS (fun u ρ σ => match evW C t u sc ρ σ with
          | some (ρ, σ) => evB C b sc ρ σ
          | none => none) l ρ σ
        | none => none
      | none => none
    | _ => none
  | .Return e _, sc, ρ, σ => match e with
    | some e => match evE C e sc ρ σ with | some (v, σ) => some (.ret v, ρ, σ) | none => none
    | none => none
  | .Break _, _, ρ, σ => some (.brk, ρ, σ)
  | _, _, _, _ => none
noncomputable def evB (C : Oracle) : List Stmt → Scope → Rho → St → Option (Fl × Rho × St)
  | [], _, ρ, σ => some (.next, ρ, σ)
  | s :: r, sc, ρ, σ => match evS C s sc ρ σ with
    | some (.next, ρ, σ) => evB C r sc ρ σ
    | some (f, ρ, σ) => some (f, ρ, σ)
    | none => none
end

noncomputable def fdOf (K : Frag) (f : Nat) : Option FuncData := match K.lookup f with
  | some ⟨_, _, .func fd, _⟩ => some fd
  | _ => none
/-- the functions that the oracle tells -/
noncomputable def fns : List Nat := [28, 43, 57, 64, 71, 78, 99, 106, 113, 120, 127, 134, 141, 148, 155, 162, 200, 205, 212]
noncomputable def callN (K : Frag) : Nat → Oracle
  | 0, _, _, _ => none
  | n + 1, f, vs, σ => match fdOf K f with
    | some fd => match fd.body with
      | .stmts b => if fns.contains f && decide (fd.params.args.length = vs.length) then (match evB (callN K n) b fd.scope (binds fd.params.args vs) σ with
        | some (.ret v, _, σ) => some (v, σ)
        | some (_, _, σ) => some (.none, σ)
        | none => none) else none
      | _ => none
    | none => none
/-- the law's own run -/
noncomputable def lawRun (K : Frag) (n : Nat) (v : V) : Option (Fl × Rho × St) := match fdOf K 217 with
  | some fd => match fd.body with
    | .stmts b => evB (callN K n) b fd.scope (binds fd.params.args [v]) []
    | _ => none
  | none => none
end Mine

end
section
open PySem PySem.W PyProof.Rows
set_option Elab.async false
set_option genSizeOfSpec false
namespace Mine

abbrev Th := List (Addr × Addr)
def muts (θ : Th) : List Addr := θ.map (·.2)
def tabs : List Addr := [207, 214]
def qualT (P : Addr) : Str := if P = 207 then Str.ofString "_law_is_mismatch.<locals>.<lambda>" else Str.ofString "law.<locals>.<lambda>"

abbrev tupO (vs : List Value) (n : Nat) : Obj := { cls := .type "tuple", data := .seq vs.toArray n }
abbrev lstO (vs : List Value) (n : Nat) : Obj := { cls := .type "list", data := .seq vs.toArray n }

/-- a code object's name, the object no table -/
def CodeAt (h : Heap) (cd : Value) (q : Str) : Prop := ∃ c o vs t, cd = .ref c ∧ c ∉ tabs ∧ h.get? c = some o ∧ o.data = .fields vs ∧ vs[1]? = some (.str q t)
/-- a lambda of one parameter that gives None -/
def LamAt (h : Heap) (a : Addr) : Prop := ∃ (fd : FuncData) (p : Str) (q : Pos) (k : Nat) (z : Pos), h.get? a = some { cls := .type "function", data := .func fd } ∧ fd.params = ⟨[], [⟨p, none, q⟩], none, [], [], none, []⟩ ∧ fd.body = .expr (.Constant .none k z) ∧
  fd.scope = ⟨.function, [(p, .local)], false, false, []⟩ ∧ fd.closure = [] ∧ fd.globals = mainGlobals ∧ fd.defaults = .none ∧ fd.kwdefaults = .none ∧ CodeAt h fd.code fd.qualname

mutual
def RV (θ : Th) (h : Heap) : V → Value → Prop
  | .none, v => v = .none
  | .bool b, v => v = .bool b
  | .int i, v => ∃ t, v = .int i t
  | .str s, v => ∃ t, v = .str s t
  | .tup l, v => ∃ a vs n, v = .ref a ∧ h.get? a = some (tupO vs n) ∧ a ∉ muts θ ∧ vs.length ≤ lcap ∧ RVs θ h l vs
  | .lst l, v => ∃ a vs n, v = .ref a ∧ h.get? a = some (lstO vs n) ∧ a ∉ muts θ ∧ vs.length ≤ lcap ∧ RVs θ h l vs
  | .obj i, v => ∃ p, θ[i]? = some p ∧ v = .ref p.1
  | .top u, v => v = u
  | .lam, v => ∃ a, v = .ref a ∧ a ∉ muts θ ∧ LamAt h a
  | .rng n, v => ∃ a t u r, v = .ref a ∧ a ∉ muts θ ∧ n ≤ 100 ∧ IsRange h a 0 n 1 t u r
def RVs (θ : Th) (h : Heap) : List V → List Value → Prop
  | [], vs => vs = []
  | x :: l, vs => ∃ v r, vs = v :: r ∧ RV θ h x v ∧ RVs θ h l r
end

/-- the entries of a talk's dict -/
def REs (θ : Th) (h : Heap) : List (Str × V) → List DictEntry → Prop
  | [], es => es = []
  | (x, v) :: l, es => ∃ e r t, es = e :: r ∧ e.key = .str x t ∧ RV θ h v e.val ∧ REs θ h l r
/-- the entries of a dict under tuples of ints -/
def RDs (θ : Th) (h : Heap) : List (List Int × V) → List (List Int × Addr × Value) → Prop
  | [], xs => xs = []
  | (k, v) :: l, xs => ∃ a u r, xs = (k, a, u) :: r ∧ RV θ h (keyV k) (.ref a) ∧ RV θ h v u ∧ RDs θ h l r

set_option genInjectivity false in
structure Cx where
  prog : Program
  w : World
  gens : Array GenState
  drawn : Drawn
  os : OsState
  b : Heap
  K : Frag
  mg : Str → Option Value
  mb : Str → Option Value
  loose : List Str
  mean : ExcName → Option Value

def RO (c : Cx) (θ : Th) (h : Heap) : MO → Addr × Addr → Prop
  | .inst attrs, p => h.get? p.1 = some (instObj 191 p.2) ∧ ∃ es n, h.get? p.2 = some (dictOf es n) ∧ REs θ h attrs es
  | .dict es, p => p.1 = p.2 ∧ es.length ≤ lcap ∧ ∃ xs, h.DictOfH (tupleKind (intKind c.prog c.w)) p.2 xs ∧ RDs θ h es xs
  | .list l, p => p.1 = p.2 ∧ ∃ vs n, h.get? p.2 = some (lstO vs n) ∧ vs.length ≤ lcap ∧ RVs θ h l vs

def TabOk (h : Heap) (P : Addr) : Prop := ∃ ps : Array Value, h.get? P = some (tabObj ps) ∧ TriplesOk ps.toList ∧ ∀ pos cv, codeAmong pos ps.toList = some cv → CodeAt h cv (qualT P)

structure Rep (c : Cx) (σ : St) (θ : Th) (h : Heap) : Prop where
  stay : ∀ b o, c.b.get? b = some o → h.get? b = some o
  len : θ.length = σ.length
  nodup : (muts θ).Nodup
  off : ∀ m ∈ muts θ, c.b.get? m = none ∧ m ∉ tabs
  offT : ∀ m ∈ tabs, c.b.get? m = none
  objs : ∀ (i : Nat) (m : MO) (p : Addr × Addr), σ[i]? = some m → θ[i]? = some p → RO c θ h m p
  tab : ∀ P ∈ tabs, TabOk h P

/-- what a step keeps -/
structure Kp (θ θ' : Th) (h h' : Heap) : Prop where
  ext : ∃ tl, θ' = θ ++ tl
  keep : ∀ b o, b ∉ muts θ → b ∉ tabs → h.get? b = some o → h'.get? b = some o
  new : ∀ m ∈ muts θ', m ∈ muts θ ∨ (h.get? m = none ∧ m ∉ tabs)

theorem Kp.refl (θ : Th) (h : Heap) : Kp θ θ h h := ⟨⟨[], by simp⟩, fun _ _ _ _ e => e, fun _ hm => .inl hm⟩
theorem Kp.trans {θ θ₁ θ₂ : Th} {h h₁ h₂ : Heap} (a : Kp θ θ₁ h h₁) (b : Kp θ₁ θ₂ h₁ h₂) : Kp θ θ₂ h h₂ := by
  obtain ⟨t₁, e₁⟩ := a.ext
  obtain ⟨t₂, e₂⟩ := b.ext
  refine ⟨⟨t₁ ++ t₂, by rw [e₂, e₁, List.append_assoc]⟩, fun x o h1 h2 e => ?_, fun m hm => ?_⟩
  · have k := a.keep x o h1 h2 e
    refine b.keep x o (fun q => ?_) h2 k
    rcases a.new x q with q | q
    · exact h1 q
    · rw [q.1] at e; cases e
  · rcases b.new m hm with q | q
    · exact a.new m q
    · by_cases hm' : m ∈ muts θ
      · exact .inl hm'
      · refine .inr ⟨?_, q.2⟩
        cases e : h.get? m with
        | none => rfl
        | some o => have := a.keep m o hm' q.2 e; rw [q.1] at this; cases this
/-- new objects alone -/
theorem Kp.grow {θ : Th} {h h' : Heap} (k : ∀ b o, h.get? b = some o → h'.get? b = some o) : Kp θ θ h h' := ⟨⟨[], by simp⟩, fun b o _ _ e => k b o e, fun _ hm => .inl hm⟩
theorem Kp.at {θ θ' : Th} {h h' : Heap} (k : Kp θ θ' h h') {i : Nat} {p : Addr × Addr} (e : θ[i]? = some p) : θ'[i]? = some p := by
  obtain ⟨t, rfl⟩ := k.ext
  rw [List.getElem?_append_left (List.getElem?_eq_some_iff.mp e).1]; exact e
theorem Kp.off {θ θ' : Th} {h h' : Heap} (k : Kp θ θ' h h') {a : Addr} {o : Obj} (e : h.get? a = some o) (n : a ∉ muts θ) : a ∉ muts θ' := fun q => by
  rcases k.new a q with q | q
  · exact n q
  · rw [q.1] at e; cases e

/-- objects that only their own activation changes: frames, cells, iterators -/
def LK (o : Obj) : Prop := (∃ es n, o.data = .dict es n) ∨ (∃ v, o.data = .cell v) ∨ ((∃ vs, o.data = .fields vs ∧ ∀ q t, vs[1]? ≠ some (.str q t)) ∧ o.cls ≠ .type "range")
/-- what a step keeps of the values -/
structure KpV (θ θ' : Th) (h h' : Heap) : Prop where
  ext : ∃ tl, θ' = θ ++ tl
  keep : ∀ b o, b ∉ muts θ → b ∉ tabs → ¬ LK o → h.get? b = some o → h'.get? b = some o
  new : ∀ m ∈ muts θ', m ∈ muts θ ∨ (h.get? m = none ∧ m ∉ tabs)
theorem Kp.v {θ θ' : Th} {h h' : Heap} (k : Kp θ θ' h h') : KpV θ θ' h h' := ⟨k.ext, fun b o h1 h2 _ e => k.keep b o h1 h2 e, k.new⟩
theorem KpV.at {θ θ' : Th} {h h' : Heap} (k : KpV θ θ' h h') {i : Nat} {p : Addr × Addr} (e : θ[i]? = some p) : θ'[i]? = some p := by
  obtain ⟨t, rfl⟩ := k.ext
  rw [List.getElem?_append_left (List.getElem?_eq_some_iff.mp e).1]; exact e
theorem KpV.off {θ θ' : Th} {h h' : Heap} (k : KpV θ θ' h h') {a : Addr} {o : Obj} (e : h.get? a = some o) (n : a ∉ muts θ) : a ∉ muts θ' := fun q => by
  rcases k.new a q with q | q
  · exact n q
  · rw [q.1] at e; cases e
theorem LK.seq {o : Obj} {xs : Array Value} {n : Nat} (e : o.data = .seq xs n) : ¬ LK o := by
  rintro (⟨_, _, q⟩ | ⟨_, q⟩ | ⟨⟨_, q, _⟩, _⟩) <;> rw [e] at q <;> cases q
theorem LK.func {o : Obj} {fd : FuncData} (e : o.data = .func fd) : ¬ LK o := by
  rintro (⟨_, _, q⟩ | ⟨_, q⟩ | ⟨⟨_, q, _⟩, _⟩) <;> rw [e] at q <;> cases q
theorem LK.plain {o : Obj} (e : o.data = .plain) : ¬ LK o := by
  rintro (⟨_, _, q⟩ | ⟨_, q⟩ | ⟨⟨_, q, _⟩, _⟩) <;> rw [e] at q <;> cases q
theorem LK.code {o : Obj} {vs : Array Value} {s : Str} {t : Tok} (e : o.data = .fields vs) (e1 : vs[1]? = some (.str s t)) : ¬ LK o := by
  rintro (⟨_, _, q⟩ | ⟨_, q⟩ | ⟨⟨_, q, z⟩, _⟩) <;> rw [e] at q <;> cases q
  exact z _ _ e1
theorem LK.range {o : Obj} {vs : Array Value} (e : o.data = .fields vs) (hc : o.cls = .type "range") : ¬ LK o := by
  rintro (⟨_, _, q⟩ | ⟨_, q⟩ | ⟨_, q⟩)
  · rw [e] at q; cases q
  · rw [e] at q; cases q
  · exact q hc

/-- no table among these -/
def TabD (h : Heap) : Prop := ∀ P ∈ tabs, ∃ ps, h.get? P = some (tabObj ps)
theorem TabD.ne {h : Heap} (t : TabD h) {a : Addr} {o : Obj} (e : h.get? a = some o) (hc : o.cls ≠ .none) : a ∉ tabs := fun q => by
  obtain ⟨ps, p⟩ := t a q
  rw [e] at p; cases p; exact hc rfl
theorem Rep.tabD {c : Cx} {σ : St} {θ : Th} {h : Heap} (r : Rep c σ θ h) : TabD h := fun P hP => let ⟨ps, e, _⟩ := r.tab P hP; ⟨ps, e⟩

/-- what stands at the places that change -/
def MutData (o : Obj) : Prop := (∃ es n, o.data = .dict es n) ∨ (∃ xs n, o.data = .seq xs n ∧ o.cls = .type "list")
def MutD (θ : Th) (h : Heap) : Prop := ∀ m ∈ muts θ, ∃ o, h.get? m = some o ∧ MutData o
theorem MutD.ne {θ : Th} {h : Heap} (d : MutD θ h) {a : Addr} {o : Obj} (e : h.get? a = some o) (n : ¬ MutData o) : a ∉ muts θ := fun q => by
  obtain ⟨o', e', z⟩ := d a q
  rw [e] at e'; cases e'; exact n z
theorem CodeAt.keepsV {θ θ' : Th} {h h' : Heap} {cd : Value} {q : Str} (x : CodeAt h cd q) (k : KpV θ θ' h h') (d : MutD θ h) : CodeAt h' cd q := by
  obtain ⟨c, o, vs, t, e, n, g, r, s⟩ := x
  refine ⟨c, o, vs, t, e, n, k.keep c o (d.ne g ?_) n (LK.code r s) g, r, s⟩
  rintro (⟨es, m, q⟩ | ⟨xs, m, q, _⟩) <;> rw [r] at q <;> cases q
theorem Rep.mutD {c : Cx} {σ : St} {θ : Th} {h : Heap} (r : Rep c σ θ h) : MutD θ h := fun m hm => by
  obtain ⟨p, hp, rfl⟩ := List.mem_map.mp hm
  obtain ⟨i, hi⟩ := List.mem_iff_getElem?.mp hp
  have hl : i < σ.length := by rw [← r.len]; exact (List.getElem?_eq_some_iff.mp hi).1
  have hσ : σ[i]? = some σ[i] := by simp [hl]
  have x := r.objs i _ p hσ hi
  cases e : σ[i] with
  | inst attrs => rw [e] at x; obtain ⟨_, es, n, g, _⟩ := x; exact ⟨_, g, .inl ⟨_, _, rfl⟩⟩
  | dict es => rw [e] at x; obtain ⟨_, _, xs, ⟨o, es', ep, g, _, d, _⟩, _⟩ := x; exact ⟨o, g, .inl ⟨_, _, d⟩⟩
  | list l => rw [e] at x; obtain ⟨_, vs, n, g, _⟩ := x; exact ⟨_, g, .inr ⟨_, _, rfl, rfl⟩⟩

theorem LamAt.keepsV {θ θ' : Th} {h h' : Heap} {a : Addr} (x : LamAt h a) (k : KpV θ θ' h h') (t : TabD h) (d : MutD θ h) (n : a ∉ muts θ) : LamAt h' a := by
  obtain ⟨fd, p, q, r, z, e, h1, h2, h3, h4, h5, h6, h7, h8⟩ := x
  exact ⟨fd, p, q, r, z, k.keep a _ n (t.ne e (fun q => by cases q)) (LK.func rfl) e, h1, h2, h3, h4, h5, h6, h7, h8.keepsV k d⟩

mutual
theorem RV.keepsV {θ θ' : Th} {h h' : Heap} (k : KpV θ θ' h h') (t : TabD h) (d : MutD θ h) : ∀ (x : V) (v : Value), RV θ h x v → RV θ' h' x v
  | .none, _, e => e
  | .bool _, _, e => e
  | .int _, _, e => e
  | .str _, _, e => e
  | .top _, _, e => e
  | .tup l, v, e => by
    obtain ⟨a, vs, n, h1, h2, h3, h4, h5⟩ := e
    exact ⟨a, vs, n, h1, k.keep a _ h3 (t.ne h2 (fun q => by cases q)) (LK.seq rfl) h2, k.off h2 h3, h4, RVs.keepsV k t d l vs h5⟩
  | .lst l, v, e => by
    obtain ⟨a, vs, n, h1, h2, h3, h4, h5⟩ := e
    exact ⟨a, vs, n, h1, k.keep a _ h3 (t.ne h2 (fun q => by cases q)) (LK.seq rfl) h2, k.off h2 h3, h4, RVs.keepsV k t d l vs h5⟩
  | .obj i, v, e => by
    obtain ⟨p, h1, h2⟩ := e
    exact ⟨p, k.at h1, h2⟩
  | .lam, v, e => by
    obtain ⟨a, h1, h2, h3⟩ := e
    obtain ⟨_, _, _, _, _, g, _⟩ := id h3
    exact ⟨a, h1, k.off g h2, h3.keepsV k t d h2⟩
  | .rng n, v, e => by
    obtain ⟨a, t₁, u, r, h1, h2, hn, h3⟩ := e
    exact ⟨a, t₁, u, r, h1, k.off h3 h2, hn, k.keep a _ h2 (t.ne h3 (fun q => by cases q)) (LK.range rfl rfl) h3⟩
theorem RVs.keepsV {θ θ' : Th} {h h' : Heap} (k : KpV θ θ' h h') (t : TabD h) (d : MutD θ h) : ∀ (l : List V) (vs : List Value), RVs θ h l vs → RVs θ' h' l vs
  | [], _, e => e
  | x :: l, _, e => by
    obtain ⟨v, r, h1, h2, h3⟩ := e
    exact ⟨v, r, h1, RV.keepsV k t d x v h2, RVs.keepsV k t d l r h3⟩
end
theorem REs.keepsV {θ θ' : Th} {h h' : Heap} (k : KpV θ θ' h h') (t : TabD h) (d : MutD θ h) : ∀ (l : List (Str × V)) (es : List DictEntry), REs θ h l es → REs θ' h' l es
  | [], _, e => e
  | (x, v) :: l, _, e => by
    obtain ⟨en, r, tk, h1, h2, h3, h4⟩ := e
    exact ⟨en, r, tk, h1, h2, RV.keepsV k t d v _ h3, REs.keepsV k t d l r h4⟩
theorem RDs.keepsV {θ θ' : Th} {h h' : Heap} (k : KpV θ θ' h h') (t : TabD h) (d : MutD θ h) : ∀ (l : List (List Int × V)) (xs : List (List Int × Addr × Value)), RDs θ h l xs → RDs θ' h' l xs
  | [], _, e => e
  | (x, v) :: l, _, e => by
    obtain ⟨a, u, r, h1, h2, h3, h4⟩ := e
    exact ⟨a, u, r, h1, RV.keepsV k t d _ _ h2, RV.keepsV k t d v _ h3, RDs.keepsV k t d l r h4⟩

theorem RVs.length {θ : Th} {h : Heap} : ∀ {l : List V} {vs : List Value}, RVs θ h l vs → vs.length = l.length
  | [], _, e => by rw [show _ = [] from e]; rfl
  | _ :: _, _, e => by obtain ⟨v, r, h1, _, h3⟩ := e; rw [h1, List.length_cons, List.length_cons, RVs.length h3]
theorem RVs.get {θ : Th} {h : Heap} : ∀ {l : List V} {vs : List Value}, RVs θ h l vs → ∀ {i : Nat} {x : V}, l[i]? = some x → ∃ v, vs[i]? = some v ∧ RV θ h x v
  | [], _, _, i, x, q => by simp at q
  | y :: l, _, e, 0, x, q => by
    obtain ⟨v, r, h1, h2, h3⟩ := e
    simp at q; subst q
    exact ⟨v, by rw [h1]; rfl, h2⟩
  | y :: l, _, e, i + 1, x, q => by
    obtain ⟨v, r, h1, h2, h3⟩ := e
    simp at q
    obtain ⟨u, h4, h5⟩ := RVs.get h3 q
    exact ⟨u, by rw [h1]; simpa using h4, h5⟩
theorem RVs.append {θ : Th} {h : Heap} : ∀ {l l' : List V} {vs vs' : List Value}, RVs θ h l vs → RVs θ h l' vs' → RVs θ h (l ++ l') (vs ++ vs')
  | [], _, _, _, e, e' => by rw [show _ = [] from e]; exact e'
  | _ :: _, _, _, _, e, e' => by obtain ⟨v, r, h1, h2, h3⟩ := e; exact ⟨v, r ++ _, by rw [h1]; rfl, h2, RVs.append h3 e'⟩
theorem RVs.take {θ : Th} {h : Heap} : ∀ {l : List V} {vs : List Value} (n : Nat), RVs θ h l vs → RVs θ h (l.take n) (vs.take n)
  | _, _, 0, _ => by rw [List.take_zero, List.take_zero]; rfl
  | [], _, _ + 1, e => by rw [show _ = [] from e]; rfl
  | _ :: _, _, n + 1, e => by obtain ⟨v, r, h1, h2, h3⟩ := e; rw [h1]; exact ⟨v, r.take n, rfl, h2, RVs.take n h3⟩
theorem RVs.drop {θ : Th} {h : Heap} : ∀ {l : List V} {vs : List Value} (n : Nat), RVs θ h l vs → RVs θ h (l.drop n) (vs.drop n)
  | _, _, 0, e => e
  | [], _, _ + 1, e => by rw [show _ = [] from e]; rfl
  | _ :: _, _, n + 1, e => by obtain ⟨v, r, h1, h2, h3⟩ := e; rw [h1]; exact RVs.drop n h3
theorem RVs.set {θ : Th} {h : Heap} {x : V} {v : Value} (q : RV θ h x v) : ∀ {l : List V} {vs : List Value} (n : Nat), RVs θ h l vs → RVs θ h (l.set n x) (vs.set n v)
  | [], _, n, e => by rw [show _ = [] from e]; rfl
  | _ :: _, _, 0, e => by obtain ⟨u, r, h1, h2, h3⟩ := e; rw [h1]; exact ⟨v, r, rfl, q, h3⟩
  | _ :: _, _, n + 1, e => by obtain ⟨u, r, h1, h2, h3⟩ := e; rw [h1]; exact ⟨u, r.set n v, rfl, h2, RVs.set q n h3⟩

theorem ints_are {prog : Program} {w : World} {θ : Th} {h : Heap} : ∀ {k : List Int} {vs : List Value}, RVs θ h (k.map .int) vs → ItemsAre (intKind prog w) k vs
  | [], _, e => by rw [show _ = [] from e]; exact .nil
  | _ :: _, _, e => by
    obtain ⟨v, r, h1, ⟨t, h2⟩, h3⟩ := e
    subst h1 h2
    exact .cons (by simp [intKind, Value.isInt]) (ints_are h3)
theorem key_is {prog : Program} {w : World} {θ : Th} {h : Heap} {k : List Int} {a : Addr} (e : RV θ h (keyV k) (.ref a)) : IsTupleKey (intKind prog w) h k a := by
  obtain ⟨a', vs, n, h1, h2, _, _, h5⟩ := e
  cases h1
  exact ⟨_, _, n, h2, rfl, rfl, by simpa using ints_are h5⟩
theorem RDs.keys {prog : Program} {w : World} {θ : Th} {h : Heap} : ∀ {l : List (List Int × V)} {xs : List (List Int × Addr × Value)}, RDs θ h l xs → ∀ x ∈ xs, IsTupleKey (intKind prog w) h x.1 x.2.1
  | [], _, e, x, hx => by rw [show _ = [] from e] at hx; cases hx
  | (k, v) :: l, _, e, x, hx => by
    obtain ⟨a, u, r, h1, h2, h3, h4⟩ := e
    subst h1
    rcases List.mem_cons.mp hx with rfl | hx
    · exact key_is h2
    · exact RDs.keys h4 x hx
theorem RDs.fst {θ : Th} {h : Heap} : ∀ {l : List (List Int × V)} {xs : List (List Int × Addr × Value)}, RDs θ h l xs → xs.map (·.1) = l.map (·.1)
  | [], _, e => by rw [show _ = [] from e]; rfl
  | (k, v) :: l, _, e => by
    obtain ⟨a, u, r, h1, h2, h3, h4⟩ := e
    subst h1
    rw [List.map_cons, List.map_cons, RDs.fst h4]
theorem RDs.append {θ : Th} {h : Heap} : ∀ {l l' : List (List Int × V)} {xs xs' : List (List Int × Addr × Value)}, RDs θ h l xs → RDs θ h l' xs' → RDs θ h (l ++ l') (xs ++ xs')
  | [], _, _, _, e, e' => by rw [show _ = [] from e]; exact e'
  | (k, v) :: l, _, _, _, e, e' => by
    obtain ⟨a, u, r, h1, h2, h3, h4⟩ := e
    exact ⟨a, u, r ++ _, by rw [h1]; rfl, h2, h3, RDs.append h4 e'⟩

/-- an object's facts, where its own place is as it was -/
theorem RO.keepsV {c : Cx} {θ θ' : Th} {h h' : Heap} (k : KpV θ θ' h h') (t : TabD h) (d : MutD θ h) {m : MO} {p : Addr × Addr} (x : RO c θ h m p) (e : h'.get? p.2 = h.get? p.2) : RO c θ' h' m p := by
  cases m with
  | inst attrs =>
    obtain ⟨h1, es, n, h2, h3⟩ := x
    exact ⟨k.keep _ _ (d.ne h1 (by rintro (⟨_, _, q⟩ | ⟨_, _, q, _⟩) <;> cases q)) (t.ne h1 (fun q => by cases q)) (LK.plain rfl) h1, es, n, by rw [e]; exact h2, h3.keepsV k t d _ _⟩
  | dict es =>
    obtain ⟨h0, hz, xs, ⟨o, es', ep, g, h1, h2, h3, h4, h5⟩, h6⟩ := x
    have h7 := h6.keepsV k t d _ _
    exact ⟨h0, hz, xs, ⟨o, es', ep, by rw [e]; exact g, h1, h2, h3, h7.keys, h5⟩, h7⟩
  | list l =>
    obtain ⟨h0, vs, n, h2, h3, h4⟩ := x
    exact ⟨h0, vs, n, by rw [e]; exact h2, h3, RVs.keepsV k t d _ _ h4⟩
theorem TabOk.keepsV {θ θ' : Th} {h h' : Heap} (k : KpV θ θ' h h') (d : MutD θ h) {P : Addr} (x : TabOk h P) (e : h'.get? P = h.get? P) : TabOk h' P := by
  obtain ⟨ps, h1, h2, h3⟩ := x
  exact ⟨ps, by rw [e]; exact h1, h2, fun pos cv q => (h3 pos cv q).keepsV k d⟩


section
variable {θ θ' : Th} {h h' : Heap}
theorem CodeAt.keeps {cd : Value} {q : Str} (x : CodeAt h cd q) (k : Kp θ θ' h h') (d : MutD θ h) : CodeAt h' cd q := x.keepsV k.v d
theorem LamAt.keeps {a : Addr} (x : LamAt h a) (k : Kp θ θ' h h') (t : TabD h) (d : MutD θ h) (n : a ∉ muts θ) : LamAt h' a := x.keepsV k.v t d n
theorem RV.keeps (k : Kp θ θ' h h') (t : TabD h) (d : MutD θ h) : ∀ (x : V) (v : Value), RV θ h x v → RV θ' h' x v := RV.keepsV k.v t d
theorem RVs.keeps (k : Kp θ θ' h h') (t : TabD h) (d : MutD θ h) : ∀ (l : List V) (vs : List Value), RVs θ h l vs → RVs θ' h' l vs := RVs.keepsV k.v t d
theorem REs.keeps (k : Kp θ θ' h h') (t : TabD h) (d : MutD θ h) : ∀ (l : List (Str × V)) (es : List DictEntry), REs θ h l es → REs θ' h' l es := REs.keepsV k.v t d
theorem RDs.keeps (k : Kp θ θ' h h') (t : TabD h) (d : MutD θ h) : ∀ (l : List (List Int × V)) (xs : List (List Int × Addr × Value)), RDs θ h l xs → RDs θ' h' l xs := RDs.keepsV k.v t d
theorem RO.keeps {c : Cx} (k : Kp θ θ' h h') (t : TabD h) (d : MutD θ h) {m : MO} {p : Addr × Addr} (x : RO c θ h m p) (e : h'.get? p.2 = h.get? p.2) : RO c θ' h' m p := x.keepsV k.v t d e
theorem TabOk.keeps (k : Kp θ θ' h h') (d : MutD θ h) {P : Addr} (x : TabOk h P) (e : h'.get? P = h.get? P) : TabOk h' P := x.keepsV k.v d e
end

/-- new objects alone -/
theorem Rep.grow {c : Cx} {σ : St} {θ : Th} {h h' : Heap} (r : Rep c σ θ h) (k : ∀ b o, h.get? b = some o → h'.get? b = some o) : Rep c σ θ h' := by
  have K : Kp θ θ h h' := Kp.grow k
  have same : ∀ a o, h.get? a = some o → h'.get? a = h.get? a := fun a o e => by rw [e, k a o e]
  refine ⟨fun b o e => k b o (r.stay b o e), r.len, r.nodup, r.off, r.offT, fun i m p h1 h2 => ?_, fun P hP => ?_⟩
  · refine (r.objs i m p h1 h2).keeps K r.tabD r.mutD ?_
    obtain ⟨o, e, _⟩ := r.mutD p.2 (List.mem_map.mpr ⟨p, List.mem_of_getElem? h2, rfl⟩)
    exact same _ _ e
  · obtain ⟨ps, e, _⟩ := r.tab P hP
    exact (r.tab P hP).keeps K r.mutD (same _ _ e)

structure Stp (c : Cx) (σ' : St) (θ θ' : Th) (h h' : Heap) : Prop where
  rep : Rep c σ' θ' h'
  kp : Kp θ θ' h h'
theorem Stp.refl {c : Cx} {σ : St} {θ : Th} {h : Heap} (r : Rep c σ θ h) : Stp c σ θ θ h h := ⟨r, Kp.refl ..⟩
theorem Stp.trans {c : Cx} {σ₁ σ₂ : St} {θ θ₁ θ₂ : Th} {h h₁ h₂ : Heap} (a : Stp c σ₁ θ θ₁ h h₁) (b : Stp c σ₂ θ₁ θ₂ h₁ h₂) : Stp c σ₂ θ θ₂ h h₂ := ⟨b.rep, a.kp.trans b.kp⟩
theorem Stp.grow {c : Cx} {σ : St} {θ : Th} {h h' : Heap} (r : Rep c σ θ h) (k : ∀ b o, h.get? b = some o → h'.get? b = some o) : Stp c σ θ θ h h' := ⟨r.grow k, Kp.grow k⟩

/-- a frame -/
structure Frm (env : Env) (ρ : Rho) (θ : Th) (h : Heap) : Prop where
  off : env.locals ∉ muts θ ∧ env.locals ∉ tabs
  ns : ∃ m, h.Ns env.locals m ∧ ∀ x v, env.kindOf x = some .local → ρ x = some v → ∃ val, m x = some val ∧ RV θ h v val
  cells : ∀ x, (env.kindOf x = some .cell ∨ env.kindOf x = some .free) → ∃ cl, env.cells.lookup x = some cl ∧ cl ∉ muts θ ∧ cl ∉ tabs ∧ cl ≠ env.locals ∧ ∃ vo, h.IsCell cl vo ∧ ∀ v, ρ x = some v → ∃ val, vo = some val ∧ RV θ h v val
  inj : ∀ x y cl, env.cells.lookup x = some cl → env.cells.lookup y = some cl → x = y
theorem Frm.keeps {env : Env} {ρ : Rho} {θ θ' : Th} {h h' : Heap} (F : Frm env ρ θ h) (k : Kp θ θ' h h') (t : TabD h) (d : MutD θ h) : Frm env ρ θ' h' := by
  obtain ⟨m, ⟨o, es, ep, g, r⟩, hv⟩ := F.ns
  refine ⟨⟨k.off g F.off.1, F.off.2⟩, ⟨m, ⟨o, es, ep, k.keep _ _ F.off.1 F.off.2 g, r⟩, fun x v h1 h2 => ?_⟩, fun x hx => ?_, F.inj⟩
  · obtain ⟨val, h3, h4⟩ := hv x v h1 h2
    exact ⟨val, h3, h4.keeps k t d _ _⟩
  · obtain ⟨cl, h1, h2, h3, h4, vo, ⟨oc, h5, h6⟩, h7⟩ := F.cells x hx
    refine ⟨cl, h1, k.off h5 h2, h3, h4, vo, ⟨oc, k.keep _ _ h2 h3 h5, h6⟩, fun v hv => ?_⟩
    obtain ⟨val, h8, h9⟩ := h7 v hv
    exact ⟨val, h8, h9.keeps k t d _ _⟩

structure Inv (c : Cx) (env : Env) (ρ : Rho) (σ : St) (θ : Th) (h : Heap) : Prop where
  rep : Rep c σ θ h
  frm : Frm env ρ θ h
theorem Inv.step {c : Cx} {env : Env} {ρ : Rho} {σ σ' : St} {θ θ' : Th} {h h' : Heap} (I : Inv c env ρ σ θ h) (s : Stp c σ' θ θ' h h') : Inv c env ρ σ' θ' h' := ⟨s.rep, I.frm.keeps s.kp I.rep.tabD I.rep.mutD⟩
theorem RV.step {c : Cx} {σ σ' : St} {θ θ' : Th} {h h' : Heap} {x : V} {v : Value} (q : RV θ h x v) (r : Rep c σ θ h) (s : Stp c σ' θ θ' h h') : RV θ' h' x v := RV.keeps s.kp r.tabD r.mutD x v q
theorem RVs.step {c : Cx} {σ σ' : St} {θ θ' : Th} {h h' : Heap} {x : List V} {v : List Value} (q : RVs θ h x v) (r : Rep c σ θ h) (s : Stp c σ' θ θ' h h') : RVs θ' h' x v := RVs.keeps s.kp r.tabD r.mutD x v q

/-- what a tree does from a heap: it ends, in no exception -/
def WP (c : Cx) (A : Around) {α : Type} (t : Sem α) (h : Heap) (P : α → Heap → Prop) : Prop :=
  ∀ n, wpAny (model c.prog c.w) A t (fun v s' => ∃ h' n', s' = ⟨h', c.gens, c.drawn, n', c.os⟩ ∧ P v h') (fun _ _ => False) ⟨h, c.gens, c.drawn, n, c.os⟩
theorem WP.use {c : Cx} {A : Around} {α : Type} {t : Sem α} {h : Heap} {P : α → Heap → Prop} {Q : α → Shared → Prop} {E : Value → Shared → Prop} {n : Nat} (x : WP c A t h P) (k : ∀ v h' n', P v h' → Q v ⟨h', c.gens, c.drawn, n', c.os⟩) :
    wpAny (model c.prog c.w) A t Q E ⟨h, c.gens, c.drawn, n, c.os⟩ :=
  wpAny_mono (x n) (by rintro v s' ⟨h', n', rfl, p⟩; exact k v h' n' p) fun _ _ q => q.elim
theorem WP.mono {c : Cx} {A : Around} {α : Type} {t : Sem α} {h : Heap} {P P' : α → Heap → Prop} (x : WP c A t h P) (k : ∀ v h', P v h' → P' v h') : WP c A t h P' :=
  fun _ => x.use fun v h' n' p => ⟨h', n', rfl, k v h' p⟩
theorem WP.pure {c : Cx} {A : Around} {α : Type} {h : Heap} {P : α → Heap → Prop} {a : α} (p : P a h) : WP c A (Pure.pure a) h P := fun n => wpAny_pure ⟨h, n, rfl, p⟩
theorem WP.bind {c : Cx} {A : Around} {α β : Type} {t : Sem α} {f : α → Sem β} {h : Heap} {P : β → Heap → Prop} (x : WP c A t h fun a h' => WP c A (f a) h' P) : WP c A (t >>= f) h P :=
  fun _ => wpAny_bind (x.use fun _ _ n' p => p n')
end Mine

end
section
open PySem PySem.W PyProof.Rows
set_option Elab.async false
namespace Mine

/-- what a global name's value must be -/
def GV : V → Value → Prop
  | .int i, v => ∃ t, v = .int i t
  | .top u, v => v = u
  | _, _ => False

/-- what the written part says of the class and its functions -/
structure KOk (K : Frag) : Prop where
  ga : findIn K (.ref 191) "__getattribute__" = some (some (.builtin "object.__getattribute__"))
  ga' : findIn K (.ref 191) "__getattr__" = some none
  sa : findIn K (.ref 191) "__setattr__" = some (some (.builtin "object.__setattr__"))
  hasD : hasDictIn K 191 = true
  over : plainOver K 191 = true
  attr : ∀ x, attrOk x = true → findIn K (.ref 191) x = some none ∧ takerIn K 191 x = some none
  init : findIn K (.ref 191) "__init__" = some (some (.ref 99))
  initF : typeIn K (.ref 99) = some (.type "function")
  makes : makesIn K 191 = true
  keepC : keepIn K (.ref 191) = true
  dga : specialIn K (.ref 81) "__getattribute__" = some (some (.builtin "type.__getattribute__"))
  dinit : ∃ mc, readsIn K 81 mc = true ∧ findCls K (.ref 81) mc "__init__" = some (.val (.ref 57))
  keepD : keepIn K (.ref 57) = true
  meth : ∀ x a, meth x = some a → findIn K (.ref 191) x = some (some (.ref a)) ∧ isFn K (.ref a) = true ∧ keepIn K (.ref a) = true ∧ attrOk x = false

structure CxOk (c : Cx) : Prop where
  X : c.K.In c.b
  k : KOk c.K
  gns : c.b.Ns mainGlobals c.mg
  bns : c.b.Ns builtinsNs c.mb
  lim : c.b.NoLimit
  bat : ∀ P ∈ tabs, c.b.BuiltinsAt c.mg P
  glob : ∀ x v, gl x = some v → ∃ val, GV v val ∧ (c.mg x = some val ∨ (c.mg x = none ∧ c.mb x = some val))

/-- an activation's facts; n: how deep calls may still go -/
structure EnvOk (c : Cx) (n : Nat) (A : Around) (env : Env) : Prop where
  kind : env.scope.kind = .function
  globals : env.globals = mainGlobals
  builtins : env.builtins = builtinsNs
  hand : A.handled = none
  depth : A.depth + 5 * n + 5 ≤ 500
  units : A.units + 200 * n + 400 ≤ 4000
  base : c.b.get? env.locals = none ∧ ∀ x cl, env.cells.lookup x = some cl → c.b.get? cl = none
  lam : env.scope.names.lookup ("talk" : Str) = some .local → ∃ cd P, env.code = .ref cd ∧ P ∈ tabs ∧ CodeHd c.b cd P ∧ env.qual ++ "<lambda>" = qualT P

theorem GV.rv {θ : Th} {h : Heap} {v : V} {val : Value} (g : GV v val) : RV θ h v val := by
  cases v <;> first | exact g | exact g.elim

variable {c : Cx} {n : Nat} {A : Around} {env : Env} {ρ : Rho} {σ : St} {θ : Th} {h : Heap}

theorem kindOf_eq (x : Str) : env.kindOf x = env.scope.names.lookup x := rfl

/-- a name is read: the heap stays -/
theorem wp_name (O : CxOk c) (N : EnvOk c n A env) (I : Inv c env ρ σ θ h) {x : Str} {p : Pos} {v : V} (e : nm env.scope ρ x = some v) :
    WP c A (eval (.Name x p) env) h fun val h' => h' = h ∧ RV θ h v val := by
  intro tk
  unfold nm at e
  split at e
  · cases e
  rename_i hd
  split at e
  · rename_i hk
    obtain ⟨val, g, r⟩ := O.glob x v e
    rcases r with r | ⟨r1, r2⟩
    · exact Calls.Name_function_global N.kind hk (Calls.loadGlobal_global (mg := c.mg) (by rw [N.globals]; exact O.gns.keeps I.rep.stay) r ⟨h, tk, rfl, rfl, g.rv⟩) hd
    · exact Calls.Name_function_global N.kind hk (Calls.loadGlobal_builtin (mg := c.mg) (mb := c.mb) (by rw [N.globals]; exact O.gns.keeps I.rep.stay) r1 (by rw [N.builtins]; exact O.bns.keeps I.rep.stay) r2 ⟨h, tk, rfl, rfl, g.rv⟩) hd
  · rename_i hk
    obtain ⟨m, hm, hv⟩ := I.frm.ns
    obtain ⟨val, h1, h2⟩ := hv x v hk e
    exact wpAny_Name (wpAny_loadName_local N.kind hk hm h1 ⟨h, tk, rfl, rfl, h2⟩) hd
  · rename_i hk
    obtain ⟨cl, h1, _, _, _, vo, h5, h6⟩ := I.frm.cells x (.inl hk)
    obtain ⟨val, rfl, h8⟩ := h6 v e
    exact wpAny_Name (wpAny_loadName_cell N.kind hk h1 h5 ⟨h, tk, rfl, rfl, h8⟩) hd
  · rename_i hk
    split at e
    · cases e
    rename_i hc
    obtain ⟨cl, h1, _, _, _, vo, h5, h6⟩ := I.frm.cells x (.inr hk)
    obtain ⟨val, rfl, h8⟩ := h6 v e
    exact wpAny_Name (wpAny_loadName_free N.kind hk h1 h5 ⟨h, tk, rfl, rfl, h8⟩ hc) hd
  · cases e

theorem cl_is : cLine = 9900 := rfl

theorem pis_reads : ∀ (l : List V) (vs : List Value) (ds : List PyData), RVs θ h l vs → pis l = some ds → ∃ as, ReadsAll h vs ds as
  | [], vs, ds, e, q => by cases q; rw [show vs = [] from e]; exact ⟨_, .nil⟩
  | x :: l, vs, ds, e, q => by
    obtain ⟨v, s, h1, h2, h3⟩ := e
    unfold pis at q
    split at q
    · rename_i hh; cases hh
    · rename_i y r' heq
      cases heq
      split at q
      · rename_i es he; cases q; subst h1
        obtain ⟨t, rfl⟩ := h2
        obtain ⟨bs, z⟩ := pis_reads l s es h3 he
        exact ⟨_, .cons (.int y t) z⟩
      · cases q
    · cases q
mutual
theorem rv_reads (r : Rep c σ θ h) : ∀ (x : V) (v : Value) (d : PyData), RV θ h x v → pd σ x = some d → ∃ as, Reads h v d as
  | .none, v, d, e, q => by cases q; rw [show v = .none from e]; exact ⟨_, .none⟩
  | .bool b, v, d, e, q => by cases q; rw [show v = .bool b from e]; exact ⟨_, .bool b⟩
  | .int i, v, d, e, q => by cases q; obtain ⟨t, e⟩ := e; rw [e]; exact ⟨_, .int i t⟩
  | .str i, v, d, e, q => by cases q; obtain ⟨t, e⟩ := e; rw [e]; exact ⟨_, .str i t⟩
  | .tup l, v, d, e, q => by
    obtain ⟨a, vs, n, h1, h2, _, _, h5⟩ := e
    unfold pd at q
    split at q
    · rename_i ds hd; cases q; subst h1
      obtain ⟨as, x⟩ := rvs_reads r l vs ds h5 hd
      exact ⟨as, .tuple h2 rfl rfl (by simpa using x)⟩
    · cases q
  | .lst l, v, d, e, q => by
    obtain ⟨a, vs, n, h1, h2, _, _, h5⟩ := e
    unfold pd at q
    split at q
    · rename_i ds hd; cases q; subst h1
      obtain ⟨as, x⟩ := rvs_reads r l vs ds h5 hd
      exact ⟨_, .list h2 rfl rfl (by simpa using x)⟩
    · cases q
  | .obj i, v, d, e, q => by
    obtain ⟨p, h1, h2⟩ := e
    unfold pd at q
    split at q
    · rename_i l hl
      split at q
      · rename_i ds hd; cases q
        obtain ⟨h3, vs, n, h4, _, h6⟩ := r.objs i _ p hl h1
        obtain ⟨as, x⟩ := rvf_reads l vs ds h6 hd
        exact ⟨_, by rw [h2, h3]; exact .list h4 rfl rfl (by simpa using x)⟩
      · cases q
    · cases q
  | .top _, _, _, _, q => by cases q
  | .lam, _, _, _, q => by cases q
  | .rng _, _, _, _, q => by cases q
theorem rvs_reads (r : Rep c σ θ h) : ∀ (l : List V) (vs : List Value) (ds : List PyData), RVs θ h l vs → pds σ l = some ds → ∃ as, ReadsAll h vs ds as
  | [], vs, ds, e, q => by cases q; rw [show vs = [] from e]; exact ⟨_, .nil⟩
  | x :: l, vs, ds, e, q => by
    obtain ⟨v, s, h1, h2, h3⟩ := e
    unfold pds at q
    split at q
    · rename_i d hd
      split at q
      · rename_i es he; cases q; subst h1
        obtain ⟨as, y⟩ := rv_reads r x v d h2 hd
        obtain ⟨bs, z⟩ := rvs_reads r l s es h3 he
        exact ⟨_, .cons y z⟩
      · cases q
    · cases q
theorem rvf_reads : ∀ (l : List V) (vs : List Value) (ds : List PyData), RVs θ h l vs → pfs l = some ds → ∃ as, ReadsAll h vs ds as
  | [], vs, ds, e, q => by cases q; rw [show vs = [] from e]; exact ⟨_, .nil⟩
  | x :: l, vs, ds, e, q => by
    obtain ⟨v, s, h1, h2, h3⟩ := e
    unfold pfs at q
    split at q
    · rename_i hh; cases hh
    · rename_i y r' heq
      cases heq
      split at q
      · rename_i es he; cases q; subst h1
        obtain ⟨t, rfl⟩ := h2
        obtain ⟨bs, z⟩ := rvf_reads l s es h3 he
        exact ⟨_, .cons (.str y t) z⟩
      · cases q
    · rename_i k r' heq
      cases heq
      split at q
      · rename_i d hd
        split at q
        · rename_i es he; cases q; subst h1
          obtain ⟨a, ws, n, rfl, g2, _, _, g5⟩ := h2
          obtain ⟨as, y⟩ := pis_reads k ws d g5 hd
          obtain ⟨bs, z⟩ := rvf_reads l s es h3 he
          exact ⟨_, .cons (.tuple g2 rfl rfl (by simpa using y)) z⟩
        · cases q
      · cases q
    · cases q
end

theorem not_tup {a : Addr} {vs : List Value} {k : Nat} : ((Value.ref a) == Value.none) = false := by simp

/-- a comparison: the heap stays -/
theorem wp_cmp (r : Rep c σ θ h) (hu : A.units + 64 < cLine) {op : CmpOp} {x y : V} {b : Bool} {u v : Value} (e : cmpV σ op x y = some b) (hx : RV θ h x u) (hy : RV θ h y v) :
    WP c A (compareOp op u v) h fun val h' => h' = h ∧ val = .bool b := by
  intro tk
  unfold cmpV at e
  split at e
  · split at e
    · rename_i d d' h1 h2
      split at e
      · rename_i hs
        obtain ⟨s1, s2⟩ := Bool.and_eq_true_iff.mp hs
        cases e
        obtain ⟨as, ra⟩ := rv_reads r x u d hx h1
        obtain ⟨bs, rb⟩ := rv_reads r y v d' hy h2
        exact eq_dataH ra rb s1 s2 hu ⟨h, tk, rfl, rfl, rfl⟩
      · cases e
    · cases e
  · split at e
    · rename_i d d' h1 h2
      split at e
      · rename_i hs
        obtain ⟨s1, s2⟩ := Bool.and_eq_true_iff.mp hs
        cases e
        obtain ⟨as, ra⟩ := rv_reads r x u d hx h1
        obtain ⟨bs, rb⟩ := rv_reads r y v d' hy h2
        exact ne_dataH ra rb s1 s2 hu ⟨h, tk, rfl, rfl, rfl⟩
      · cases e
    · cases e
  · split at e
    · cases e; obtain ⟨t, rfl⟩ := hx; obtain ⟨t', rfl⟩ := hy
      exact lt_int ⟨h, tk, rfl, rfl, rfl⟩
    · cases e
  · split at e
    · cases e; obtain ⟨t, rfl⟩ := hx; obtain ⟨t', rfl⟩ := hy
      exact gt_int ⟨h, tk, rfl, rfl, rfl⟩
    · cases e
  · split at e
    · cases e; obtain ⟨t, rfl⟩ := hx; obtain ⟨t', rfl⟩ := hy
      exact le_int ⟨h, tk, rfl, rfl, rfl⟩
    · cases e
  · split at e
    · cases e; obtain ⟨t, rfl⟩ := hx; obtain ⟨t', rfl⟩ := hy
      exact ge_int ⟨h, tk, rfl, rfl, rfl⟩
    · cases e
  · split at e
    · cases e; rw [show u = .none from hx, show v = .none from hy]
      exact wpAny_is_self rfl ⟨h, tk, rfl, rfl, rfl⟩
    · cases e; obtain ⟨a, vs, k, h1, _⟩ := hx; rw [h1, show v = .none from hy]
      exact wpAny_is_other rfl (fun q => by cases q) ⟨h, tk, rfl, rfl, rfl⟩
    · cases e
  · split at e
    · cases e; rw [show u = .none from hx, show v = .none from hy]
      exact wpAny_isNot_self rfl ⟨h, tk, rfl, rfl, rfl⟩
    · cases e; obtain ⟨a, vs, k, h1, _⟩ := hx; rw [h1, show v = .none from hy]
      exact wpAny_isNot_other rfl (fun q => by cases q) ⟨h, tk, rfl, rfl, rfl⟩
    · cases e
  · cases e

theorem rv_new_tup (r : Rep c σ θ h) {l : List V} {vs : List Value} (q : RVs θ h l vs) (hl : vs.length ≤ lcap) {h' : Heap} (k : ∀ b o, h.get? b = some o → h'.get? b = some o) :
    Stp c σ θ θ h (h'.push (tupO vs 0)) ∧ RV θ (h'.push (tupO vs 0)) (.tup l) (.ref h'.objs.size) := by
  have k' : ∀ b o, h.get? b = some o → (h'.push (tupO vs 0)).get? b = some o := fun b o e => Heap.get?_push_of_some _ (k b o e)
  have S := Stp.grow r k'
  refine ⟨S, _, vs, 0, rfl, Heap.get?_push_size _ rfl, fun q' => ?_, hl, q.step r S⟩
  obtain ⟨o, e, _⟩ := r.mutD _ q'
  exact absurd (Heap.lt_size (k _ _ e)) (Nat.lt_irrefl _)
theorem rv_new_lst (r : Rep c σ θ h) {l : List V} {vs : List Value} (q : RVs θ h l vs) (hl : vs.length ≤ lcap) {h' : Heap} (k : ∀ b o, h.get? b = some o → h'.get? b = some o) :
    Stp c σ θ θ h (h'.push (lstO vs 0)) ∧ RV θ (h'.push (lstO vs 0)) (.lst l) (.ref h'.objs.size) := by
  have k' : ∀ b o, h.get? b = some o → (h'.push (lstO vs 0)).get? b = some o := fun b o e => Heap.get?_push_of_some _ (k b o e)
  have S := Stp.grow r k'
  refine ⟨S, _, vs, 0, rfl, Heap.get?_push_size _ rfl, fun q' => ?_, hl, q.step r S⟩
  obtain ⟨o, e, _⟩ := r.mutD _ q'
  exact absurd (Heap.lt_size (k _ _ e)) (Nat.lt_irrefl _)

/-- a binary operation -/
theorem wp_bin (r : Rep c σ θ h) {op : Operator} {x y z : V} {u v : Value} (e : binV op x y = some z) (hx : RV θ h x u) (hy : RV θ h y v) :
    WP c A (binaryOp op u v) h fun val h' => Stp c σ θ θ h h' ∧ RV θ h' z val := by
  intro tk
  have S := Stp.refl r
  unfold binV at e
  split at e
  · obtain ⟨t, rfl⟩ := hx; obtain ⟨t', rfl⟩ := hy
    split at e
    · cases e; exact add_int ⟨h, _, rfl, S, _, rfl⟩
    · cases e; exact sub_int ⟨h, _, rfl, S, _, rfl⟩
    · split at e
      · cases e
      · cases e; exact mod_int' (by assumption) ⟨h, _, rfl, S, _, rfl⟩
    · split at e
      · rename_i hc; cases e
        exact floordiv_int (by omega) ⟨h, _, rfl, S, _, rfl⟩ (Or.inl (PyProof.noPylong_small (by omega)))
      · cases e
    · split at e
      · rename_i hc; cases e
        exact mul_int ⟨h, _, rfl, S, _, rfl⟩ (IntMulOk.of_left (intBits_le_64 (by omega) (by omega)))
      · cases e
    · split at e
      · rename_i hc; cases e
        exact pow_int_small (by omega) (by omega) (by omega) ⟨h, _, rfl, S, _, rfl⟩
      · cases e
    · cases e; exact and_int ⟨h, _, rfl, S, _, rfl⟩
    · cases e; exact or_int ⟨h, _, rfl, S, _, rfl⟩
    · cases e
  · split at e
    · split at e
      · rename_i hc; cases e
        obtain ⟨a, vs, n, rfl, h2, h3, h4, h5⟩ := hx
        obtain ⟨b, ws, k, rfl, g2, g3, g4, g5⟩ := hy
        rw [← h5.length, ← g5.length] at hc
        have q := rv_new_lst r (h5.append g5) (by rw [List.length_append]; exact hc) (h' := h) fun _ _ e => e
        refine concat_meets ⟨_, h2, rfl⟩ ⟨_, g2, rfl⟩ noFill_list_add seq_list_add PySem.F.slot_list_add PySem.F.entry_list_add (PySem.F.args_list_add_2 _ _) (list_addW a b vs.toArray ws.toArray n k none none #[] #[] (by unfold lcap at hc; simp [sizeLine_eq]; omega)) ⟨h2, g2, ?_⟩
        exact ⟨_, _, rfl, by simpa using q⟩
      · cases e
    · cases e
  · split at e
    · split at e
      · rename_i hc; cases e
        obtain ⟨rfl, hc⟩ := hc
        obtain ⟨a, vs, n, rfl, h2, h3, h4, h5⟩ := hx
        obtain ⟨t, rfl⟩ := hy
        rw [← h5.length] at hc
        have q := rv_new_lst r (h5.append h5) (by rw [List.length_append]; unfold lcap; omega) (h' := h) fun _ _ e => e
        have e2 : (List.foldl (fun x1 x2 => x1 ++ x2) #[] (List.replicate (if vs.toArray.isEmpty = true then 0 else (2 : Int).toNat) vs.toArray)) = (vs ++ vs).toArray := by
          cases vs with
          | nil => rfl
          | cons v r => rw [if_neg (by simp)]; show #[] ++ _ ++ _ = _; simp
        refine wpAny_binaryOp_repeat_ref (T := "list") (U := "int") (by decide) ⟨_, h2, rfl⟩ (fun s' => typeIs_int s' 2 t) noFill_list_mul F.fills_int_mul F.slot_int_rmul repeat_list F.slot_int_index.lookup
          (call_meets F.slot_int_rmul (typeIs_int _ 2 t) F.entry_int_rmul (F.args_int_rmul_2 _ _) (int___rmul___int_list 2 t a vs.toArray n)
            ⟨h2, rfl, ⟨_, h2, rfl⟩, call_meets F.slot_list_mul ⟨_, h2, rfl⟩ F.entry_list_mul (F.args_list_mul_2 _ _)
              (AutoListH.list___mul___list_int_3 a vs.toArray n 2 t (by simp [Builtin.List.listFitsIndex]) (by simp; omega) (by simp [Builtin.List.listTooLong, sizeLine]; omega))
              ⟨h2, ?_⟩⟩)
        rw [e2]
        exact ⟨_, _, rfl, q⟩
      · cases e
    · cases e
  · cases e
end Mine

end
section
open PySem PySem.W PyProof.Rows
set_option Elab.async false
namespace Mine
variable {c : Cx} {n : Nat} {A : Around} {env : Env} {ρ : Rho} {σ : St} {θ : Th} {h : Heap}

theorem natOf_rv {x : V} {k : Nat} {v : Value} (e : natOf x = some k) (hx : RV θ h x v) : ∃ t, v = .int k t := by
  unfold natOf at e
  split at e
  · cases e; exact hx
  · cases e

theorem lcap_lt : lcap < 2 ^ 62 := by decide
/-- an item: the heap stays -/
theorem wp_item (r : Rep c σ θ h) {o i z : V} {u v : Value} (e : itemV σ o i = some z) (ho : RV θ h o u) (hi : RV θ h i v) : WP c A (getItem u v) h fun val h' => h' = h ∧ RV θ h z val := by
  intro tk
  unfold itemV at e
  split at e
  · rename_i k hk
    obtain ⟨t, rfl⟩ := natOf_rv hk hi
    split at e
    · obtain ⟨a, vs, m, rfl, h2, _, h4, h5⟩ := ho
      obtain ⟨val, h6, h7⟩ := h5.get e
      have hlt := (List.getElem?_eq_some_iff.mp h6).1
      exact getItem_tuple (j := k) ⟨_, h2, rfl, _, rfl⟩ (by omega) (by have := lcap_lt; omega) (by unfold seqIndex?; simp; omega) (by simpa using h6) ⟨h, tk, rfl, rfl, h7⟩
    · obtain ⟨a, vs, m, rfl, h2, _, h4, h5⟩ := ho
      obtain ⟨val, h6, h7⟩ := h5.get e
      have hlt := (List.getElem?_eq_some_iff.mp h6).1
      exact wpAny_getItem_list (items := vs.toArray) ⟨_, h2, rfl, _, rfl⟩ (by omega) (by have := lcap_lt; omega) (by simpa using h6) ⟨h, tk, rfl, rfl, h7⟩
    · obtain ⟨p, h1, rfl⟩ := ho
      split at e
      · rename_i l hl
        obtain ⟨h3, vs, m, h2, h4, h5⟩ := r.objs _ _ p hl h1
        obtain ⟨val, h6, h7⟩ := h5.get e
        have hlt := (List.getElem?_eq_some_iff.mp h6).1
        rw [h3]
        exact wpAny_getItem_list (items := vs.toArray) ⟨_, h2, rfl, _, rfl⟩ (by omega) (by have := lcap_lt; omega) (by simpa using h6) ⟨h, tk, rfl, rfl, h7⟩
      · cases e
    · cases e
  · cases e

theorem item_type (r : Rep c σ θ h) {o i z : V} {u : Value} {tk : Nat} (e : itemV σ o i = some z) (ho : RV θ h o u) :
    ∃ T id, (⟨h, c.gens, c.drawn, tk, c.os⟩ : Shared).TypeIs u T ∧ typeLookup (.type T) "__getitem__" = pure (some (.builtin id)) := by
  unfold itemV at e
  split at e
  · split at e
    · obtain ⟨a, vs, m, rfl, h2, _⟩ := ho
      exact ⟨"tuple", _, ⟨_, h2, rfl⟩, slot_tuple_getitem.lookup⟩
    · obtain ⟨a, vs, m, rfl, h2, _⟩ := ho
      exact ⟨"list", _, ⟨_, h2, rfl⟩, slot_list_getitem.lookup⟩
    · obtain ⟨p, h1, rfl⟩ := ho
      split at e
      · rename_i l hl
        obtain ⟨h3, vs, m, h2, _⟩ := r.objs _ _ p hl h1
        rw [h3]
        exact ⟨"list", _, ⟨_, h2, rfl⟩, slot_list_getitem.lookup⟩
      · cases e
    · cases e
  · cases e

theorem adjust_run (a b n : Nat) (hab : a ≤ b) (hb : b ≤ n) : Builtin.Slice.sliceAdjust (some (a : Int)) (some (b : Int)) 1 (n : Int) = ((a : Int), (b : Int)) := by
  unfold Builtin.Slice.sliceAdjust
  have h1 : ¬ ((1 : Int) < 0) := by omega
  have h2 : ¬ ((a : Int) < 0) := by omega
  have h3 : ¬ ((b : Int) < 0) := by omega
  simp only [h1, h2, h3, if_false]
  congr 1 <;> omega
theorem places_run (a b : Nat) (hab : a ≤ b) : Builtin.Slice.slicePlaces (a : Int) (b : Int) 1 = b - a := by
  unfold Builtin.Slice.slicePlaces
  have h1 : (1 : Int) > 0 := by omega
  simp only [h1, if_true, Int.ediv_one]
  split <;> omega
theorem applied_run {prog : Program} {w : World} {E : Value → Shared → Prop} {s : Shared} {sl : Addr} {a b n : Nat} {u u' : Tok} {Q : Int × Int × Nat → Shared → Prop} (hs : s.heap.IsSliceOf sl (.int a u) (.int b u') .none) (hab : a ≤ b) (hb : b ≤ n) (q : Q ((a : Int), 1, b - a) s) :
    wpAny (model prog w) A (Builtin.Slice.sliceApplied (.ref sl) (pure (n : Int))) Q E s := by
  obtain ⟨os, hos, hcs, hds⟩ := id hs
  unfold Builtin.Slice.sliceApplied Builtin.Slice.sliceFields
  refine wpAny_bind (wpAny_bind (wpAny_field hos hds (x := .int a u) rfl (wpAny_bind (wpAny_field hos hds (x := .int b u') rfl (wpAny_bind (wpAny_field hos hds (x := .none) rfl (wpAny_pure ?_)))))))
  refine wpAny_bind (slicePart_none ?_)
  show wpAny _ _ (if ((1 : Int) == 0) = true then _ else _) _ _ s
  rw [if_neg (by decide)]
  refine wpAny_bind (slicePart_int (wpAny_bind (slicePart_int (wpAny_bind (wpAny_pure ?_)))))
  show wpAny _ _ (match Builtin.Slice.sliceAdjust (some (a : Int)) (some (b : Int)) 1 (n : Int) with | (lo, hi) => pure (lo, (1 : Int), Builtin.Slice.slicePlaces lo hi 1)) _ _ s
  rw [adjust_run a b n hab hb]
  show wpAny _ _ (pure ((a : Int), (1 : Int), Builtin.Slice.slicePlaces (a : Int) (b : Int) 1)) _ _ s
  rw [places_run a b hab]
  exact wpAny_pure q
theorem pick_ab (xs : Array Value) (a k : Nat) : ((List.range k).filterMap fun (k : Nat) => xs[((a : Int) + (k : Int) * 1).toNat]?).toArray = ((xs.toList.drop a).take k).toArray := by
  have e : (fun (k : Nat) => xs[((a : Int) + (k : Int) * 1).toNat]?) = fun k => xs[a + k]? := by
    funext k
    have : ((a : Int) + (k : Int) * 1).toNat = a + k := by omega
    rw [this]
  rw [e]
  have := pick_run xs a k
  rw [List.filterMap_map] at this
  have e2 : ((fun x => xs[x]?) ∘ fun x => a + x) = fun k => xs[a + k]? := rfl
  rw [e2] at this
  rw [this]
theorem tup_cut {prog : Program} {w : World} {E : Value → Shared → Prop} {s : Shared} {t sl : Addr} {items : Array Value} {a b : Nat} {u u' : Tok} {Q : Value → Shared → Prop} (ht : IsTup s.heap t items) (hs : s.heap.IsSliceOf sl (.int a u) (.int b u') .none) (h1 : 1 ≤ a) (hab : a ≤ b) (hb : b ≤ items.size)
    (q : Q (.ref s.heap.objs.size) { s with heap := s.heap.push { cls := .type "tuple", data := .seq ((items.toList.drop a).take (b - a)).toArray } }) (hsz : items.size ≤ sizeLine) :
    wpAny (model prog w) A (getItem (.ref t) (.ref sl)) Q E s := by
  have hcut : sizeOk (.seq ((items.toList.drop a).take (b - a)).toArray) := by
    show ((items.toList.drop a).take (b - a)).toArray.size ≤ sizeLine
    rw [List.size_toArray, List.length_take, List.length_drop, Array.length_toList]
    omega
  obtain ⟨os, hos, hcs, hds⟩ := id hs
  have hTs : s.TypeIs (.ref sl) "slice" := ⟨os, hos, hcs⟩
  unfold getItem
  try with_reducible refine wpAny_holding ?_
  first | refine wpAny_bind (wpAny_pure ?_) | skip
  refine wpAny_bind (wpAny_sequenceKey ht.typeIs (by decide) ?_)
  refine wpAny_bind (wpAny_callSpecial?_slot (name := Str.ofString "__getitem__") ht.typeIs slot_tuple_getitem
    (wpAny_call_entry slot_tuple_getitem ht.typeIs entry_tuple_getitem ?_ (args_tuple_getitem _ _)))
  show wpAny _ _ (Builtin.Tuple.tupleItemsOf (.ref t) >>= _) _ _ s
  refine wpAny_bind (tupleItemsOf_ ht ?_)
  refine wpAny_bind (wpAny_typeOf hTs ?_)
  rw [if_pos (by decide)]
  refine wpAny_bind (applied_run hs hab hb ?_)
  have hno : ¬ (((a : Int) == 0 && (1 : Int) == 1 && (b - a) == items.size) = true) := by
    have : ((a : Int) == 0) = false := by rw [beq_eq_false_iff_ne]; omega
    rw [this]; simp
  show wpAny _ _ (if ((a : Int) == 0 && (1 : Int) == 1 && (b - a) == items.size) = true then _ else _) _ _ s
  rw [if_neg hno, pick_ab items a (b - a)]
  first
    | exact wpAny_bind (m := Builtin.Tuple.tupleExact _) (wpAny_newObj_type (wpAny_pure ⟨_, rfl, wpAny_pure q⟩) hcut)
    | exact wpAny_bind (m := Builtin.Tuple.tupleExact _) (wpAny_newObj_type (wpAny_bind (wpAny_pure (wpAny_pure ⟨_, rfl, wpAny_pure q⟩))) hcut)

theorem partV_rv {x : V} {k : Option Nat} {v : Value} (e : partV x = some k) (hx : RV θ h x v) : IsPart v (k.map Int.ofNat) ∧ (∀ j, k = some j → ∃ t, v = .int j t) := by
  unfold partV at e
  split at e
  · cases e; rw [show v = .none from hx]; exact ⟨.none, fun _ q => by cases q⟩
  · cases e; obtain ⟨t, rfl⟩ := hx; exact ⟨.int _ _, fun j q => by cases q; exact ⟨t, rfl⟩⟩
  · cases e

theorem cut_list (vs : List Value) (lo hi : Option Nat) : slicePick vs.toArray (lo.map Int.ofNat) (hi.map Int.ofNat) none = ((match hi with | some b => vs.take b | none => vs).drop (lo.getD 0)).toArray := by
  have e := kms_pick_eq vs.toArray (lo.map Int.ofNat) (hi.map Int.ofNat)
  rw [e]
  unfold kms_pick
  have h1 : kms_lo (lo.map Int.ofNat) vs.length = min (lo.getD 0) vs.length := by
    cases lo with
    | none => simp [kms_lo]
    | some a => simp [kms_lo]; omega
  have h2 : kms_hi (hi.map Int.ofNat) vs.length = min (hi.getD vs.length) vs.length := by
    cases hi with
    | none => simp [kms_hi]
    | some a => simp [kms_hi]; omega
  simp only [h1, h2]
  congr 1
  cases hi with
  | none =>
    simp only [Option.getD_none]
    apply List.ext_getElem?
    intro i
    simp only [List.getElem?_take, List.getElem?_drop]
    split <;> rename_i hc
    · congr 1; omega
    · symm; rw [List.getElem?_eq_none_iff]; omega
  | some b =>
    simp only [Option.getD_some]
    apply List.ext_getElem?
    intro i
    simp only [List.getElem?_take, List.getElem?_drop]
    repeat' split
    all_goals first | (congr 1; omega) | rfl | (symm; rw [List.getElem?_eq_none_iff]; omega) | (rw [List.getElem?_eq_none_iff]; omega) | (exfalso; omega)

/-- a part of a list or of a tuple -/
theorem wp_cut (r : Rep c σ θ h) {o lo hi z : V} {u vl vh : Value} {sl : Addr} (e : cutV o lo hi = some z) (ho : RV θ h o u) (hl : RV θ h lo vl) (hh : RV θ h hi vh) (hs : h.IsSliceOf sl vl vh .none) :
    WP c A (getItem u (.ref sl)) h fun val h' => Stp c σ θ θ h h' ∧ RV θ h' z val := by
  intro tk
  unfold cutV at e
  split at e
  · rename_i a b ea eb
    obtain ⟨pl, pl'⟩ := partV_rv ea hl
    obtain ⟨ph, ph'⟩ := partV_rv eb hh
    split at e
    · split at e
      · split at e
        · rename_i a b hc; cases e
          obtain ⟨x, vs, m, rfl, h2, _, h4, h5⟩ := ho
          obtain ⟨t, rfl⟩ := pl' _ rfl
          obtain ⟨t', rfl⟩ := ph' _ rfl
          have hlen := h5.length
          have q := rv_new_tup r ((h5.drop a).take (b - a)) (by rw [List.length_take, List.length_drop]; omega) (h' := h) fun _ _ e => e
          exact tup_cut (items := vs.toArray) ⟨_, h2, rfl, _, rfl⟩ hs hc.1 hc.2.1 (by simp; omega) ⟨_, _, rfl, by simpa using q⟩ (by rw [sizeLine_eq]; unfold lcap at h4; simp; omega)
        · cases e
      · cases e
    · rename_i l; cases e
      obtain ⟨x, vs, m, rfl, h2, _, h4, h5⟩ := ho
      have q5 : RVs θ h (cutL l a b) ((match b with | some b => vs.take b | none => vs).drop (a.getD 0)) := by
        unfold cutL
        cases b with
        | none => exact h5.drop _
        | some b => exact (h5.take b).drop _
      have hle : ((match b with | some b => vs.take b | none => vs).drop (a.getD 0)).length ≤ lcap := by
        cases b <;> simp <;> omega
      have q := rv_new_lst r q5 hle (h' := h) fun _ _ e => e
      refine wpAny_getItem_list_slice (items := vs.toArray) ⟨_, h2, rfl, _, rfl⟩ hs pl ph .none (by simp) ?_ (by rw [sizeLine_eq]; unfold lcap at h4; simp; omega)
      rw [cut_list]
      exact ⟨_, _, rfl, q⟩
    · cases e
  · cases e
theorem cut_type {o lo hi z : V} {u : Value} {tk : Nat} (e : cutV o lo hi = some z) (ho : RV θ h o u) :
    ∃ T id, (⟨h, c.gens, c.drawn, tk, c.os⟩ : Shared).TypeIs u T ∧ typeLookup (.type T) "__getitem__" = pure (some (.builtin id)) := by
  unfold cutV at e
  split at e
  · split at e
    · obtain ⟨a, vs, m, rfl, h2, _⟩ := ho
      exact ⟨"tuple", _, ⟨_, h2, rfl⟩, slot_tuple_getitem.lookup⟩
    · obtain ⟨a, vs, m, rfl, h2, _⟩ := ho
      exact ⟨"list", _, ⟨_, h2, rfl⟩, slot_list_getitem.lookup⟩
    · cases e
  · cases e
end Mine

end
section
open PySem PySem.W PyProof.Rows
set_option Elab.async false
namespace Mine
variable {c : Cx} {n : Nat} {A : Around} {env : Env} {ρ : Rho} {σ : St} {θ : Th} {h : Heap}

theorem len_dict {prog : Program} {w : World} {E : Value → Shared → Prop} {s : Shared} {d : Addr} {o : Obj} {es : Array DictEntry} {ep : Nat} {Q : Value → Shared → Prop} (hs : (d == sysModules) = false) (ho : s.heap.get? d = some o) (hc : o.cls = .type "dict") (hd : o.data = .dict es ep)
    (hfit : (es.size : Int) < 2 ^ 63) (q : Q (.int es.size (s.toks + 1)) { s with toks := s.toks + 1 + 1 }) : wpAny (model prog w) A (call (.builtin "len") [.ref d]) Q E s := by
  have hT : s.TypeIs (.ref d) "dict" := ⟨o, ho, hc⟩
  refine Calls.call_function_entry kind_len plain_len entry_len (args_len1 _) ?_
  unfold Builtin.«len»
  refine wpAny_bind (m := oneArg "len" _) (wpAny_pure ?_)
  refine wpAny_bind (m := callSpecial? (.ref d) (Str.ofString "__len__")) (wpAny_callSpecial?_slot (name := Str.ofString "__len__") hT F.slot_dict_len
    (wpAny_call_entry F.slot_dict_len hT F.entry_dict_len ?_ (F.args_dict_len_1 _)))
  show wpAny _ _ (dictSize d >>= _) _ _ s
  unfold dictSize
  refine wpAny_bind (wpAny_bind (wpAny_dictEntries ho hd (wpAny_pure ?_)))
  show wpAny _ _ (Builtin.Dict.pendingCount d >>= _) _ _ s
  refine wpAny_bind (wpAny_pendingCount_other hs ?_)
  refine wpAny_bind (wpAny_mkInt (wpAny_pure ⟨_, rfl, ?_⟩))
  refine wpAny_bind (wpAny_holding (wpAny_pure ?_))
  refine wpAny_bind (wpAny_letGo ?_)
  show wpAny _ _ (if ((es.size + 0 : Nat) : Int) < 0 then _ else _) _ _ _
  rw [if_neg (by omega)]
  show wpAny _ _ (if ((es.size + 0 : Nat) : Int) ≥ 2 ^ 63 then _ else _) _ _ _
  rw [if_neg (by omega)]
  exact wpAny_bind (wpAny_mkInt (wpAny_pure ⟨_, rfl, q⟩))

/-- what the ways of the sort ask: kept for later -/
def SortOk (c : Cx) : Prop := ∀ (A : Around) (σ : St) (θ : Th) (h : Heap) (i : Nat) (es : List (List Int × V)) (v : Value), A.handled = none → A.units + 400 < cLine → Rep c σ θ h → σ[i]? = some (.dict es) → RV θ h (.obj i) v →
  (ascK (es.map (·.1)) && ((es.map (·.1)).all fun k => !k.isEmpty) && decide (es.length ≤ 6)) = true → WP c A (call (.builtin "sorted") [v]) h fun val h' => Stp c σ θ θ h h' ∧ RV θ h' (.lst (es.map fun e => keyV e.1)) val

structure SysOk (c : Cx) : Prop where
  sys : ∀ m, c.b.get? m = none → (m == sysModules) = false
  sort : SortOk c

theorem rv1 {x : V} {vals : List Value} (e : RVs θ h [x] vals) : ∃ v, vals = [v] ∧ RV θ h x v := by
  obtain ⟨v, r, h1, h2, h3⟩ := e
  exact ⟨v, by rw [h1, show r = [] from h3], h2⟩

theorem RDs.length {l : List (List Int × V)} {xs : List (List Int × Addr × Value)} (e : RDs θ h l xs) : xs.length = l.length := by
  have := congrArg List.length e.fst
  simpa using this

/-- a call of a built-in function or type -/
theorem wp_bi (Y : SysOk c) (r : Rep c σ θ h) (hA : A.handled = none) (hu : A.units + 400 < cLine) {u : Value} {vs : List V} {vals : List Value} {z : V} (e : biV σ u vs = some z) (hv : RVs θ h vs vals) :
    WP c A (call u vals) h fun val h' => Stp c σ θ θ h h' ∧ RV θ h' z val := by
  intro tk
  have S := Stp.refl r
  have big := lcap_lt
  unfold biV at e
  split at e
  · split at e
    · rename_i hn; subst hn
      split at e
      · cases e
        obtain ⟨v, rfl, a, ws, k, rfl, h2, _, h4, h5⟩ := rv1 hv
        have hl := h5.length
        exact PyProof.Rows.len_tuple (items := ws.toArray) ⟨_, h2, rfl, _, rfl⟩ (by simp; omega) ⟨h, _, rfl, S, _, by rw [List.size_toArray, hl]⟩
      · cases e
        obtain ⟨v, rfl, a, ws, k, rfl, h2, _, h4, h5⟩ := rv1 hv
        have hl := h5.length
        exact PyProof.Rows.len_list (items := ws.toArray) ⟨_, h2, rfl, _, rfl⟩ (by simp; omega) ⟨h, _, rfl, S, _, by rw [List.size_toArray, hl]⟩
      · obtain ⟨v, rfl, p, h1, rfl⟩ := rv1 hv
        split at e
        · rename_i es hσ; cases e
          obtain ⟨h0, hz, xs, ⟨o, es', ep, g, gx, gd, ge, _⟩, h6⟩ := r.objs _ _ p hσ h1
          have hsz : es'.size = es.length := by
            rw [← h6.length]
            have := congrArg List.length ge
            simpa using this
          · rw [h0]
            exact len_dict (Y.sys _ (r.off p.2 (List.mem_map.mpr ⟨p, List.mem_of_getElem? h1, rfl⟩)).1) g gx.1 gd (by omega) ⟨h, _, rfl, S, _, by rw [hsz]⟩
        · rename_i l hσ; cases e
          obtain ⟨h0, ws, k, h2, h4, h5⟩ := r.objs _ _ p hσ h1
          have hl := h5.length
          rw [h0]
          exact PyProof.Rows.len_list (items := ws.toArray) ⟨_, h2, rfl, _, rfl⟩ (by simp; omega) ⟨h, _, rfl, S, _, by rw [List.size_toArray, hl]⟩
        · cases e
      · cases e
    · split at e
      · rename_i hn; subst hn
        split at e
        · cases e
          obtain ⟨v, rfl, t, rfl⟩ := rv1 hv
          exact call_abs_int fun u tk' => ⟨h, _, rfl, S, u, by congr 1; split <;> omega⟩
        · cases e
      · split at e
        · rename_i hn; subst hn
          split at e
          · split at e
            · rename_i es hσ
              split at e
              · rename_i hc; cases e
                obtain ⟨v, rfl, h1⟩ := rv1 hv
                exact Y.sort A σ θ h _ es v hA hu r hσ h1 hc tk
              · cases e
            · cases e
          · cases e
        · cases e
  · split at e
    · rename_i hn; subst hn
      split at e
      · cases e
        obtain ⟨v, rfl, a, ws, k, rfl, h2, _, h4, h5⟩ := rv1 hv
        exact call_tuple_list (items := ws.toArray) ⟨_, h2, rfl, _, rfl⟩ (fun h' k => ⟨_, _, rfl, rv_new_tup r h5 h4 k⟩) (by rw [sizeLine_eq]; unfold lcap at h4; simp; omega)
      · cases e
    · split at e
      · rename_i hn; subst hn
        split at e
        · cases e
          obtain ⟨v, rfl, a, ws, k, rfl, h2, _, h4, h5⟩ := rv1 hv
          refine call_list_seq (items := ws.toArray) a (.inl rfl) h2 rfl rfl (fun h' c' k hD => ?_) (by rw [sizeLine_eq]; unfold lcap at h4; simp; omega)
          have S' := Stp.grow r k
          refine ⟨_, _, rfl, S', _, ws, c', rfl, hD, fun q => ?_, h4, h5.step r S'⟩
          obtain ⟨o, e, _⟩ := r.mutD _ q
          exact absurd (Heap.lt_size e) (Nat.lt_irrefl _)
        · obtain ⟨v, rfl, p, h1, rfl⟩ := rv1 hv
          split at e
          · rename_i l hσ; cases e
            obtain ⟨h0, ws, k, h2, h4, h5⟩ := r.objs _ _ p hσ h1
            rw [h0]
            refine call_list_seq (items := ws.toArray) p.2 (.inl rfl) h2 rfl rfl (fun h' c' k hD => ?_) (by rw [sizeLine_eq]; unfold lcap at h4; simp; omega)
            have S' := Stp.grow r k
            refine ⟨_, _, rfl, S', _, ws, c', rfl, hD, fun q => ?_, h4, h5.step r S'⟩
            obtain ⟨o, e, _⟩ := r.mutD _ q
            exact absurd (Heap.lt_size e) (Nat.lt_irrefl _)
          · cases e
        · cases e
      · split at e
        · rename_i hn; subst hn
          split at e
          · split at e
            · rename_i k hk; cases e
              obtain ⟨v, rfl, t, rfl⟩ := rv1 hv
              have k' : ∀ b o, h.get? b = some o → (h.push { cls := .type "range", data := .fields #[.int 0 tk, .int (Int.ofNat k) t, .int 1 (tk + 1)] }).get? b = some o := fun b o e => Heap.get?_push_of_some _ e
              refine call_range_1 ⟨_, _, rfl, Stp.grow r k', _, _, _, _, rfl, fun q => ?_, hk, Heap.get?_push_size _ rfl⟩
              obtain ⟨o, e, _⟩ := r.mutD _ q
              exact absurd (Heap.lt_size e) (Nat.lt_irrefl _)
            · cases e
          · cases e
        · cases e
  · cases e
end Mine

end
section
open PySem PySem.W PyProof.Rows
set_option Elab.async false
namespace Mine
variable {c : Cx} {n : Nat} {C : Oracle}

def SE (c : Cx) (n : Nat) (C : Oracle) (e : Expr) : Prop := ∀ (A : Around) (env : Env) (ρ : Rho) (σ : St) (θ : Th) (h : Heap) (v : V) (σ' : St), EnvOk c n A env → Inv c env ρ σ θ h → evE C e env.scope ρ σ = some (v, σ') →
  WP c A (eval e env) h fun val h' => ∃ θ', Stp c σ' θ θ' h h' ∧ RV θ' h' v val
def SEs (c : Cx) (n : Nat) (C : Oracle) (es : List Expr) : Prop := ∀ (A : Around) (env : Env) (ρ : Rho) (σ : St) (θ : Th) (h : Heap) (vs : List V) (σ' : St) (pos : Pos), EnvOk c n A env → Inv c env ρ σ θ h → evEs C es env.scope ρ σ = some (vs, σ') →
  WP c A (spliced (backTo pos (starEach es env))) h fun vals h' => ∃ θ', Stp c σ' θ θ' h h' ∧ RVs θ' h' vs vals
def SP (c : Cx) (n : Nat) (C : Oracle) (e : Option Expr) : Prop := ∀ (A : Around) (env : Env) (ρ : Rho) (σ : St) (θ : Th) (h : Heap) (v : V) (σ' : St), EnvOk c n A env → Inv c env ρ σ θ h → evP C e env.scope ρ σ = some (v, σ') →
  WP c A (evalPart e env) h fun val h' => ∃ θ', Stp c σ' θ θ' h h' ∧ RV θ' h' v val
def ST (c : Cx) (n : Nat) (C : Oracle) (e : Expr) : Prop := ∀ (A : Around) (env : Env) (ρ : Rho) (σ : St) (θ : Th) (h : Heap) (b : Bool) (σ' : St), EnvOk c n A env → Inv c env ρ σ θ h → evT C e env.scope ρ σ (evE C e env.scope ρ σ) = some (b, σ') →
  WP c A (isTrue e env (eval e env)) h fun b' h' => b' = b ∧ ∃ θ', Stp c σ' θ θ' h h'
def SA (c : Cx) (n : Nat) (C : Oracle) (es : List Expr) : Prop := ∀ (op : BoolOp) (A : Around) (env : Env) (ρ : Rho) (σ : St) (θ : Th) (h : Heap) (b : Bool) (σ' : St), EnvOk c n A env → Inv c env ρ σ θ h → evA C op es env.scope ρ σ = some (b, σ') →
  WP c A (allTrue op es env) h fun b' h' => b' = b ∧ ∃ θ', Stp c σ' θ θ' h h'
def SO (c : Cx) (n : Nat) (C : Oracle) (es : List Expr) : Prop := ∀ (op : BoolOp) (pos : Pos) (A : Around) (env : Env) (ρ : Rho) (σ : St) (θ : Th) (h : Heap) (v : V) (σ' : St), EnvOk c n A env → Inv c env ρ σ θ h → evO C op es env.scope ρ σ = some (v, σ') →
  WP c A (boolOp pos op (evalEach es env)) h fun val h' => ∃ θ', Stp c σ' θ θ' h h' ∧ RV θ' h' v val
/-- a def's call, as code -/
def CW (c : Cx) (A : Around) (f : Addr) (vals : List Value) (h : Heap) (P : Value → Heap → Prop) : Prop :=
  ∀ n, codeAny (model c.prog c.w) A (.call (.ref f) ⟨vals, []⟩) (fun r s' => ∃ v h' n', r = .ok (.ret v) ∧ s' = ⟨h', c.gens, c.drawn, n', c.os⟩ ∧ P v h') ⟨h, c.gens, c.drawn, n, c.os⟩
theorem CW.wp {A : Around} {f : Addr} {vals : List Value} {h : Heap} {P : Value → Heap → Prop} (x : CW c A f vals h P) : WP c A (call (.ref f) vals) h P := fun n =>
  wpAny_call (codeAny_mono (x n) (by rintro r s' ⟨v, h', n', rfl, rfl, p⟩; exact ⟨h', n', rfl, p⟩))
theorem CW.mono {A : Around} {f : Addr} {vals : List Value} {h : Heap} {P P' : Value → Heap → Prop} (x : CW c A f vals h P) (k : ∀ v h', P v h' → P' v h') : CW c A f vals h P' := fun n =>
  codeAny_mono (x n) (by rintro r s' ⟨v, h', n', e1, e2, p⟩; exact ⟨v, h', n', e1, e2, k v h' p⟩)
/-- the calls that the oracle tells -/
def SC (c : Cx) (n : Nat) (C : Oracle) : Prop := ∀ (f : Nat) (vs : List V) (σ : St) (v : V) (σ' : St), C f vs σ = some (v, σ') → keepIn c.K (.ref f) = true ∧ ∀ (A : Around) (θ : Th) (h : Heap) (vals : List Value), A.handled = none → A.depth + 5 * n + 2 ≤ 500 → A.units + 200 * n + 300 ≤ 4000 → Rep c σ θ h → RVs θ h vs vals →
  CW c A f vals h fun val h' => ∃ θ', Stp c σ' θ θ' h h' ∧ RV θ' h' v val

theorem truth_rv {θ : Th} {h : Heap} {x : V} {b : Bool} {v : Value} (e : truth x = some b) (hx : RV θ h x v) : v = .bool b := by
  unfold truth at e
  split at e
  · cases e; exact hx
  · cases e

theorem units_ok {A : Around} {env : Env} (N : EnvOk c n A env) : A.units + 400 < cLine := by have := N.units; rw [cl_is]; omega

theorem s_const (k : Const) (j : Nat) (p : Pos) : SE c n C (.Constant k j p) := by
  intro A env ρ σ θ h v σ' N I e tk
  conv at e => lhs; whnf
  have S := Stp.refl I.rep
  split at e
  · cases e; exact wpAny_Constant_none ⟨h, _, rfl, θ, S, rfl⟩
  · cases e; exact wpAny_Constant_bool ⟨h, _, rfl, θ, S, rfl⟩
  · cases e; exact wpAny_Constant_int ⟨h, _, rfl, θ, S, _, rfl⟩
  · cases e; exact PySem.wpAny_Constant_str ⟨h, _, rfl, θ, S, _, rfl⟩
  · cases e
theorem s_name (x : Str) (p : Pos) (O : CxOk c) : SE c n C (.Name x p) := by
  intro A env ρ σ θ h v σ' N I e
  rw [evE] at e
  split at e
  · rename_i u hu; cases e
    refine (wp_name O N I hu).mono ?_
    rintro val h' ⟨rfl, q⟩
    exact ⟨θ, Stp.refl I.rep, q⟩
  · cases e
theorem s_BinOp {l r : Expr} {op : Operator} {p : Pos} (hl : SE c n C l) (hr : SE c n C r) : SE c n C (.BinOp l op r p) := by
  intro A env ρ σ θ h v σ' N I e tk
  rw [evE] at e
  split at e
  · rename_i a σ₁ ea
    split at e
    · rename_i b σ₂ eb
      split at e
      · rename_i z ez; cases e
        refine wpAny_BinOp ((hl A env ρ σ θ h a σ₁ N I ea).use ?_)
        rintro va h₁ t₁ ⟨θ₁, S₁, qa⟩
        have I₁ := I.step S₁
        refine (hr A env ρ σ₁ θ₁ h₁ b _ N I₁ eb).use ?_
        rintro vb h₂ t₂ ⟨θ₂, S₂, qb⟩
        refine (wp_bin S₂.rep ez (qa.step I₁.rep S₂) qb).use ?_
        rintro vz h₃ t₃ ⟨S₃, qz⟩
        exact ⟨h₃, t₃, rfl, θ₂, (S₁.trans S₂).trans S₃, qz⟩
      · cases e
    · cases e
  · cases e
theorem s_IfExp {t b o : Expr} {p : Pos} (ht : ST c n C t) (hb : SE c n C b) (ho : SE c n C o) : SE c n C (.IfExp t b o p) := by
  intro A env ρ σ θ h v σ' N I e tk
  rw [evE] at e
  split at e
  · rename_i σ₁ et
    refine wpAny_IfExp ((ht A env ρ σ θ h true σ₁ N I et).use ?_)
    rintro b' h₁ t₁ ⟨rfl, θ₁, S₁⟩
    rw [if_pos rfl]
    refine (hb A env ρ σ₁ θ₁ h₁ v σ' N (I.step S₁) e).use ?_
    rintro val h₂ t₂ ⟨θ₂, S₂, q⟩
    exact ⟨h₂, t₂, rfl, θ₂, S₁.trans S₂, q⟩
  · rename_i σ₁ et
    refine wpAny_IfExp ((ht A env ρ σ θ h false σ₁ N I et).use ?_)
    rintro b' h₁ t₁ ⟨rfl, θ₁, S₁⟩
    rw [if_neg (by decide)]
    refine (ho A env ρ σ₁ θ₁ h₁ v σ' N (I.step S₁) e).use ?_
    rintro val h₂ t₂ ⟨θ₂, S₂, q⟩
    exact ⟨h₂, t₂, rfl, θ₂, S₁.trans S₂, q⟩
  · cases e
/-- one more object -/
theorem Rep.add {σ : St} {θ : Th} {h h' : Heap} (r : Rep c σ θ h) {m : MO} {p : Addr × Addr} (k : ∀ b o, h.get? b = some o → h'.get? b = some o) (hn : h.get? p.2 = none) (ho : RO c (θ ++ [p]) h' m p) : Stp c (σ ++ [m]) θ (θ ++ [p]) h h' := by
  have hb : c.b.get? p.2 = none := by
    cases e : c.b.get? p.2 with
    | none => rfl
    | some o => have := r.stay _ _ e; rw [hn] at this; cases this
  have ht : p.2 ∉ tabs := fun q => by
    obtain ⟨ps, e⟩ := r.tabD _ q
    rw [hn] at e; cases e
  have hm : p.2 ∉ muts θ := fun q => by
    obtain ⟨o, e, _⟩ := r.mutD _ q
    rw [hn] at e; cases e
  have em : muts (θ ++ [p]) = muts θ ++ [p.2] := by unfold muts; simp
  have K : Kp θ (θ ++ [p]) h h' := ⟨⟨[p], rfl⟩, fun b o _ _ e => k b o e, fun x hx => by
    rw [em] at hx
    rcases List.mem_append.mp hx with hx | hx
    · exact .inl hx
    · rw [List.mem_singleton.mp hx]; exact .inr ⟨hn, ht⟩⟩
  refine ⟨⟨fun b o e => k b o (r.stay b o e), by simp [r.len], ?_, ?_, r.offT, fun i m' p' h1 h2 => ?_, fun P hP => ?_⟩, K⟩
  · rw [em, List.nodup_append]
    exact ⟨r.nodup, by simp, fun a ha b hb => by rw [List.mem_singleton.mp hb]; exact fun q => hm (q ▸ ha)⟩
  · intro x hx
    rw [em] at hx
    rcases List.mem_append.mp hx with hx | hx
    · exact r.off x hx
    · rw [List.mem_singleton.mp hx]; exact ⟨hb, ht⟩
  · by_cases hi : i < σ.length
    · rw [List.getElem?_append_left hi] at h1
      rw [List.getElem?_append_left (by rw [r.len]; exact hi)] at h2
      refine (r.objs i m' p' h1 h2).keeps K r.tabD r.mutD ?_
      obtain ⟨o, e, _⟩ := r.mutD p'.2 (List.mem_map.mpr ⟨p', List.mem_of_getElem? h2, rfl⟩)
      rw [e]; exact k _ _ e
    · have hl : i = σ.length := by
        have := (List.getElem?_eq_some_iff.mp h1).1
        simp at this; omega
      subst hl
      rw [List.getElem?_append_right (Nat.le_refl _)] at h1
      rw [List.getElem?_append_right (by rw [r.len]; exact Nat.le_refl _)] at h2
      simp [r.len] at h1 h2
      subst h1 h2
      exact ho
  · obtain ⟨ps, e, _⟩ := r.tab P hP
    exact (r.tab P hP).keeps K r.mutD (by rw [e]; exact k _ _ e)
theorem new_at {σ : St} {θ : Th} {h : Heap} (r : Rep c σ θ h) (p : Addr × Addr) : (θ ++ [p])[σ.length]? = some p := by
  rw [← r.len, List.getElem?_append_right (Nat.le_refl _)]; simp
theorem none_size (h : Heap) : h.get? h.objs.size = none := by
  cases e : h.get? h.objs.size with
  | none => rfl
  | some o => exact absurd (Heap.lt_size e) (Nat.lt_irrefl _)
theorem s_Dict (ks : List (Option Expr)) (vs : List Expr) (p : Pos) : SE c n C (.Dict ks vs p) := by
  intro A env ρ σ θ h v σ' N I e tk
  conv at e => lhs; whnf
  split at e
  · cases e
    have k : ∀ b o, h.get? b = some o → (h.push { cls := .type "dict", data := .dict #[] }).get? b = some o := fun b o e => Heap.get?_push_of_some _ e
    refine wpAny_Dict_empty ⟨_, _, rfl, θ ++ [(h.objs.size, h.objs.size)], I.rep.add k (none_size h) ⟨rfl, Nat.zero_le _, [], ⟨_, #[], 0, Heap.get?_push_size _ rfl, ⟨rfl, rfl, rfl⟩, rfl, rfl, (fun _ q => by cases q), List.nodup_nil⟩, rfl⟩, _, new_at I.rep _, rfl⟩
  · cases e
theorem s_List {es : List Expr} {p : Pos} (hs : SEs c n C es) : SE c n C (.List es p) := by
  intro A env ρ σ θ h v σ' N I e tk
  rw [evE] at e
  split at e
  · rename_i vs σ₁ ev
    split at e
    · rename_i hc
      refine wpAny_List ((hs A env ρ σ θ h vs _ p N I ev).use ?_)
      rintro vals h₁ t₁ ⟨θ₁, S₁, q⟩
      have hl := q.length
      refine ⟨by rw [sizeLine_eq]; omega, ?_⟩
      split at e
      · cases e
        have k : ∀ b o, h₁.get? b = some o → (h₁.push (lstO vals 0)).get? b = some o := fun b o e => Heap.get?_push_of_some _ e
        have K : Kp θ₁ (θ₁ ++ [(h₁.objs.size, h₁.objs.size)]) h₁ (h₁.push (lstO vals 0)) := ⟨⟨_, rfl⟩, fun b o _ _ e => k b o e, fun x hx => by
          unfold muts at hx; rw [List.map_append] at hx
          rcases List.mem_append.mp hx with hx | hx
          · exact .inl hx
          · rw [List.mem_singleton.mp hx]; exact .inr ⟨none_size h₁, fun q => by
              obtain ⟨ps, e⟩ := S₁.rep.tabD _ q
              have := none_size h₁; rw [this] at e; cases e⟩⟩
        have S₂ : Stp c _ θ₁ _ h₁ (h₁.push (lstO vals 0)) := S₁.rep.add (m := .list vs) (p := (h₁.objs.size, h₁.objs.size)) k (none_size h₁) ⟨rfl, vals, 0, Heap.get?_push_size _ rfl, by unfold lcap; omega, RVs.keeps K S₁.rep.tabD S₁.rep.mutD _ _ q⟩
        exact ⟨_, _, rfl, _, S₁.trans S₂, _, new_at S₁.rep _, rfl⟩
      · cases e
        obtain ⟨S₂, q₂⟩ := rv_new_lst S₁.rep q (by unfold lcap; omega) (h' := h₁) fun _ _ e => e
        exact ⟨_, _, rfl, θ₁, S₁.trans S₂, q₂⟩
    · cases e
  · cases e
theorem s_Tuple {es : List Expr} {k : Nat} {p : Pos} (hs : SEs c n C es) : SE c n C (.Tuple es k p) := by
  intro A env ρ σ θ h v σ' N I e tk
  rw [evE] at e
  split at e
  · rename_i vs σ₁ ev
    split at e
    · rename_i hc; cases e
      refine wpAny_Tuple ((hs A env ρ σ θ h vs _ p N I ev).use ?_)
      rintro vals h₁ t₁ ⟨θ₁, S₁, q⟩
      have hl := q.length
      obtain ⟨S₂, q₂⟩ := rv_new_tup S₁.rep q (by unfold lcap; omega) (h' := h₁) fun _ _ e => e
      exact ⟨by rw [sizeLine_eq]; omega, _, _, rfl, θ₁, S₁.trans S₂, q₂⟩
    · cases e
  · cases e
theorem spliced_nil' {A : Around} {h : Heap} {P : List Value → Heap → Prop} (p : P [] h) : WP c A (spliced []) h P := WP.pure p
theorem s_nil : SEs c n C [] := by
  intro A env ρ σ θ h vs σ' p N I e
  rw [evEs] at e
  cases e
  exact WP.pure ⟨θ, Stp.refl I.rep, rfl⟩
theorem s_cons {x : Expr} {r : List Expr} (hx : SE c n C x) (hr : SEs c n C r) : SEs c n C (x :: r) := by
  intro A env ρ σ θ h vs σ' p N I e tk
  have hstar : starEach (x :: r) env = (false, eval x env) :: starEach r env := by
    cases x <;> first | rfl | (cases e; done) | (unfold evEs at e; unfold evE at e; cases e)
  rw [evEs] at e
  split at e
  · rename_i v σ₁ ev
    split at e
    · rename_i us σ₂ eu; cases e
      refine wpAny_items_cons ((hx A env ρ σ θ h v σ₁ N I ev).use ?_) hstar
      rintro val h₁ t₁ ⟨θ₁, S₁, q⟩
      refine (hr A env ρ σ₁ θ₁ h₁ us _ p N (I.step S₁) eu).use ?_
      rintro vals h₂ t₂ ⟨θ₂, S₂, q₂⟩
      exact ⟨h₂, t₂, rfl, θ₂, S₁.trans S₂, _, _, rfl, q.step S₁.rep S₂, q₂⟩
    · cases e
  · cases e
theorem s_part_none : SP c n C none := by
  intro A env ρ σ θ h v σ' N I e
  rw [evP] at e
  cases e
  exact WP.pure ⟨θ, Stp.refl I.rep, rfl⟩
theorem s_part_some {x : Expr} (hx : SE c n C x) : SP c n C (some x) := by
  intro A env ρ σ θ h v σ' N I e
  rw [evP] at e
  exact hx A env ρ σ θ h v σ' N I e

theorem s_Not {x : Expr} {op : UnaryOp} {p : Pos} (hx : SE c n C x) : SE c n C (.UnaryOp op x p) := by
  intro A env ρ σ θ h v σ' N I e tk
  conv at e => lhs; whnf
  split at e
  · split at e
    · rename_i u σ₁ eu
      split at e
      · rename_i b eb; cases e
        refine wpAny_UnaryOp ((hx A env ρ σ θ h u _ N I eu).use ?_)
        rintro val h₁ t₁ ⟨θ₁, S₁, q⟩
        rw [truth_rv eb q]
        exact wpAny_bind (wpAny_truthy_bool (wpAny_pure ⟨h₁, t₁, rfl, θ₁, S₁, rfl⟩))
      · cases e
    · cases e
  · cases e
theorem marks_no {op : CmpOp} {σ : St} {x y : V} {b : Bool} (r : Expr) (e : cmpV σ op x y = some b) : behindInMarks op r = false := by
  cases op <;> first | rfl | (cases e; done) | (unfold cmpV at e; cases e; done) | (cases r <;> first | rfl | simp [behindInMarks])
theorem s_Compare {l : Expr} {ops : List CmpOp} {rs : List Expr} {p : Pos} (hl : SE c n C l) (hr : ∀ r ∈ rs, SE c n C r) : SE c n C (.Compare l ops rs p) := by
  intro A env ρ σ θ h v σ' N I e tk
  replace e : (match (generalizing := false) ops, rs with
    | [op], [r] => match evE C l env.scope ρ σ with
      | some (a, σ) => match evE C r env.scope ρ σ with
        | some (b, σ) => match cmpV σ op a b with | some c => some (V.bool c, σ) | none => none
        | none => none
      | none => none
    | _, _ => none) = some (v, σ') := by
    rw [← e]
    rcases ops with _ | ⟨op, _ | ⟨_, _⟩⟩ <;> rcases rs with _ | ⟨r, _ | ⟨_, _⟩⟩ <;> rfl
  split at e
  · rename_i op r
    split at e
    · rename_i a σ₁ ea
      split at e
      · rename_i b σ₂ eb
        split at e
        · rename_i z ez; cases e
          refine wpAny_Compare1 ((hl A env ρ σ θ h a σ₁ N I ea).use ?_) (marks_no r ez)
          rintro va h₁ t₁ ⟨θ₁, S₁, qa⟩
          have I₁ := I.step S₁
          refine (hr r (List.mem_singleton.mpr rfl) A env ρ σ₁ θ₁ h₁ b _ N I₁ eb).use ?_
          rintro vb h₂ t₂ ⟨θ₂, S₂, qb⟩
          refine (wp_cmp S₂.rep (by have := units_ok N; omega) ez (qa.step I₁.rep S₂) qb).use ?_
          rintro vz h₃ t₃ ⟨rfl, rfl⟩
          exact ⟨_, t₃, rfl, θ₂, S₁.trans S₂, rfl⟩
        · cases e
      · cases e
    · cases e
  · cases e
theorem not_slice {i : Expr} (hi : ∀ lo hi st p, i ≠ .Slice lo hi st p) (o v : Value) : subscripted i false o v = operate [o, v] (getItem o v) := by
  cases i <;> first | rfl | exact absurd rfl (hi _ _ _ _)
theorem s_Subscript {o i : Expr} {p : Pos} (hi : ∀ lo hi st p, i ≠ .Slice lo hi st p) (ho : SE c n C o) (hx : SE c n C i) : SE c n C (.Subscript o i p) := by
  intro A env ρ σ θ h v σ' N I e tk
  have e' : (match evE C o env.scope ρ σ with
    | some (a, σ) => match evE C i env.scope ρ σ with
      | some (b, σ) => match itemV σ a b with | some v => some (v, σ) | none => none
      | none => none
    | none => none) = some (v, σ') := by
    rw [← e]
    cases i <;> first | rfl | exact absurd rfl (hi _ _ _ _)
  clear e
  split at e'
  · rename_i a σ₁ ea
    split at e'
    · rename_i b σ₂ eb
      split at e'
      · rename_i z ez; cases e'
        refine Subscript_ ((ho A env ρ σ θ h a σ₁ N I ea).use ?_)
        rintro va h₁ t₁ ⟨θ₁, S₁, qa⟩
        have I₁ := I.step S₁
        refine (hx A env ρ σ₁ θ₁ h₁ b _ N I₁ eb).use ?_
        rintro vb h₂ t₂ ⟨θ₂, S₂, qb⟩
        have qa' := qa.step I₁.rep S₂
        obtain ⟨T, id, hT, hid⟩ := item_type (tk := t₂) S₂.rep ez qa'
        refine tail_any hT hid ((wp_item S₂.rep ez qa' qb).use ?_) (not_slice hi _ _)
        rintro vz h₃ t₃ ⟨rfl, qz⟩
        exact ⟨_, t₃, rfl, θ₂, S₁.trans S₂, qz⟩
      · cases e'
    · cases e'
  · cases e'
theorem s_Slice {o : Expr} {lo hi st : Option Expr} {p p' : Pos} (ho : SE c n C o) (hl : SP c n C lo) (hh : SP c n C hi) : SE c n C (.Subscript o (.Slice lo hi st p) p') := by
  intro A env ρ σ θ h v σ' N I e tk
  conv at e => lhs; whnf
  split at e
  · split at e
    · rename_i a σ₁ ea
      split at e
      · rename_i u σ₂ eu
        split at e
        · rename_i w σ₃ ew
          split at e
          · rename_i z ez; cases e
            refine Subscript_ ((ho A env ρ σ θ h a σ₁ N I ea).use ?_)
            rintro va h₁ t₁ ⟨θ₁, S₁, qa⟩
            have I₁ := I.step S₁
            refine wpAny_Slice ((hl A env ρ σ₁ θ₁ h₁ u _ N I₁ eu).use ?_)
            rintro vu h₂ t₂ ⟨θ₂, S₂, qu⟩
            have I₂ := I₁.step S₂
            refine (hh A env ρ σ₂ θ₂ h₂ w _ N I₂ ew).use ?_
            rintro vw h₃ t₃ ⟨θ₃, S₃, qw⟩
            refine wpAny_evalPart_none ?_
            have k : ∀ b o, h₃.get? b = some o → (h₃.push { cls := .type "slice", data := .fields #[vu, vw, .none] }).get? b = some o := fun b o e => Heap.get?_push_of_some _ e
            have S₄ := Stp.grow S₃.rep k
            have qa' := ((qa.step I₁.rep S₂).step I₂.rep S₃).step S₃.rep S₄
            have qu' := (qu.step I₂.rep S₃).step S₃.rep S₄
            have qw' := qw.step S₃.rep S₄
            obtain ⟨T, id, hT, hid⟩ := cut_type (c := c) (tk := t₃) ez qa'
            refine tail_any (ops := [_, _]) hT hid ((wp_cut S₄.rep ez qa' qu' qw' (Heap.IsSliceOf.new ..)).use ?_) rfl
            rintro vz h₄ t₄ ⟨S₅, qz⟩
            exact ⟨_, t₄, rfl, θ₃, (((S₁.trans S₂).trans S₃).trans S₄).trans S₅, qz⟩
          · cases e
        · cases e
      · cases e
    · cases e
  · cases e

theorem s_or_nil : SO c n C [] := by
  intro op p A env ρ σ θ h v σ' N I e
  rw [evO] at e; cases e
theorem s_or_cons {x : Expr} {r : List Expr} (hx : SE c n C x) (hr : SO c n C r) : SO c n C (x :: r) := by
  intro op p A env ρ σ θ h v σ' N I e tk
  rw [evO] at e
  split at e
  · rename_i u σ₁ eu
    split at e
    · cases e
      show wpAny _ A (eval x env) _ _ _
      exact hx A env ρ σ θ h v _ N I eu tk
    · rename_i y r'
      have go : wpAny (model c.prog c.w) A (eval x env) (fun u s' => wpAny (model c.prog c.w) A (standAt p) (fun _ s₁ => wpAny (model c.prog c.w) A (holding [u] (truthy u)) (fun t s₂ => wpAny (model c.prog c.w) A (match op, t with
          | .And, false => pure u
          | .Or, true => pure u
          | _, _ => boolOp p op (evalEach (y :: r') env)) (fun u s' => ∃ h' n', s' = ⟨h', c.gens, c.drawn, n', c.os⟩ ∧ ∃ θ', Stp c σ' θ θ' h h' ∧ RV θ' h' v u) (fun _ _ => False) s₂) (fun _ _ => False) s₁) (fun _ _ => False) s') (fun _ _ => False) ⟨h, c.gens, c.drawn, tk, c.os⟩ := by
        refine (hx A env ρ σ θ h u σ₁ N I eu).use ?_
        rintro val h₁ t₁ ⟨θ₁, S₁, q⟩
        refine wpAny_standAt (wpAny_holding ?_)
        split at e
        · rename_i hb
          rw [truth_rv hb q]
          refine wpAny_truthy_bool ?_
          split at e
          · refine (hr _ p A env ρ σ₁ θ₁ h₁ v σ' N (I.step S₁) e).use ?_
            rintro val₂ h₂ t₂ ⟨θ₂, S₂, q₂⟩
            exact ⟨_, _, rfl, _, S₁.trans S₂, q₂⟩
          · cases e
            exact wpAny_pure ⟨_, _, rfl, _, S₁, by rw [← truth_rv hb q]; exact q⟩
        · rename_i hb
          rw [truth_rv hb q]
          refine wpAny_truthy_bool ?_
          split at e
          · cases e
            exact wpAny_pure ⟨_, _, rfl, _, S₁, by rw [← truth_rv hb q]; exact q⟩
          · refine (hr _ p A env ρ σ₁ θ₁ h₁ v σ' N (I.step S₁) e).use ?_
            rintro val₂ h₂ t₂ ⟨θ₂, S₂, q₂⟩
            exact ⟨_, _, rfl, _, S₁.trans S₂, q₂⟩
        · cases e
      show wpAny (model c.prog c.w) A (eval x env >>= fun v => standAt p >>= fun _ => holding [v] (truthy v) >>= fun t => match op, t with
          | .And, false => pure v
          | .Or, true => pure v
          | _, _ => boolOp p op (evalEach (y :: r') env)) _ _ _
      exact wpAny_bind (wpAny_mono go (fun _ _ g => wpAny_bind (wpAny_mono g (fun _ _ g => wpAny_bind g) fun _ _ q => q)) fun _ _ q => q)
  · cases e
theorem s_BoolOp {op : BoolOp} {vs : List Expr} {p : Pos} (h : SO c n C vs) : SE c n C (.BoolOp op vs p) := by
  intro A env ρ σ θ hh v σ' N I e
  rw [evE] at e
  rw [arm_eval_BoolOp]
  exact h op p A env ρ σ θ hh v σ' N I e
theorem s_all_nil : SA c n C [] := by
  intro op A env ρ σ θ h b σ' N I e
  conv at e => lhs; whnf
  split at e
  · cases e; exact WP.pure ⟨rfl, θ, Stp.refl I.rep⟩
  · cases e; exact WP.pure ⟨rfl, θ, Stp.refl I.rep⟩
theorem s_all_cons {x : Expr} {r : List Expr} (hx : ST c n C x) (hr : SA c n C r) : SA c n C (x :: r) := by
  intro op A env ρ σ θ h b σ' N I e
  rw [evA] at e
  rw [arm_allTrue_cons]
  refine WP.bind ?_
  split at e
  · rename_i σ₁ et
    refine (hx A env ρ σ θ h true σ₁ N I et).mono ?_
    rintro b' h₁ ⟨rfl, θ₁, S₁⟩
    split at e
    · refine (hr _ A env ρ σ₁ θ₁ h₁ b σ' N (I.step S₁) e).mono ?_
      rintro b' h₂ ⟨rfl, θ₂, S₂⟩
      exact ⟨rfl, θ₂, S₁.trans S₂⟩
    · cases e; exact WP.pure ⟨rfl, θ₁, S₁⟩
  · rename_i σ₁ et
    refine (hx A env ρ σ θ h false σ₁ N I et).mono ?_
    rintro b' h₁ ⟨rfl, θ₁, S₁⟩
    split at e
    · cases e; exact WP.pure ⟨rfl, θ₁, S₁⟩
    · refine (hr _ A env ρ σ₁ θ₁ h₁ b σ' N (I.step S₁) e).mono ?_
      rintro b' h₂ ⟨rfl, θ₂, S₂⟩
      exact ⟨rfl, θ₂, S₁.trans S₂⟩
  · cases e
end Mine

end
section
open PySem PySem.W PyProof.Rows
set_option Elab.async false
namespace Mine
variable {c : Cx} {n : Nat} {C : Oracle}

theorem t_Not {x : Expr} {p : Pos} (hx : ST c n C x) : ST c n C (.UnaryOp .Not x p) := by
  intro A env ρ σ θ h b σ' N I e tk
  rw [evT] at e
  split at e
  · rename_i b' σ₁ eb; cases e
    refine wpAny_isTrue_Not ((hx A env ρ σ θ h b' _ N I eb).use ?_)
    rintro b₁ h₁ t₁ ⟨rfl, θ₁, S₁⟩
    exact ⟨_, _, rfl, rfl, θ₁, S₁⟩
  · cases e
theorem t_BoolOp {op : BoolOp} {vs : List Expr} {p : Pos} (hs : SA c n C vs) : ST c n C (.BoolOp op vs p) := by
  intro A env ρ σ θ h b σ' N I e tk
  rw [evT] at e
  exact wpAny_isTrue_BoolOp (hs op A env ρ σ θ h b σ' N I e tk)
theorem t_IfExp {a b o : Expr} {p : Pos} : ST c n C (.IfExp a b o p) := by
  intro A env ρ σ θ h b σ' N I e
  rw [evT] at e; cases e
/-- any other test: the value's truth -/
theorem t_value {x : Expr} (hx : SE c n C x) (he : ∀ env whole, isTrue x env whole = (do let v ← whole; standAt x.pos; holding [v] (truthy v)))
    (hv : ∀ (sc : Scope) (ρ : Rho) (σ : St) (w : Option (V × St)), evT C x sc ρ σ w = match w with
      | some (v, σ) => match truth v with | some b => some (b, σ) | none => none
      | none => none) : ST c n C x := by
  intro A env ρ σ θ h b σ' N I e tk
  rw [hv] at e
  split at e
  · rename_i v σ₁ ev
    split at e
    · rename_i b' eb; cases e
      refine wpAny_isTrue_value ((hx A env ρ σ θ h v _ N I ev).use ?_) (he _ _)
      rintro val h₁ t₁ ⟨θ₁, S₁, q⟩
      rw [truth_rv eb q]
      exact wpAny_truthy_bool ⟨_, _, rfl, rfl, θ₁, S₁⟩
    · cases e
  · cases e
theorem mark_no {op : CmpOp} {σ : St} {x y : V} {b : Bool} (r : Expr) (t : Sem Value) (e : cmpV σ op x y = some b) : markedBehindIn op r t = t := by
  unfold markedBehindIn; rw [marks_no r e]
theorem t_Compare {l : Expr} {ops : List CmpOp} {rs : List Expr} {p : Pos} (hl : SE c n C l) (hr : ∀ r ∈ rs, SE c n C r) : ST c n C (.Compare l ops rs p) := by
  intro A env ρ σ θ h v σ' N I e tk
  have hu := units_ok N
  replace e : (match (generalizing := false) ops, rs with
    | [op], [r] => match evE C l env.scope ρ σ with
      | some (a, σ) => match evE C r env.scope ρ σ with
        | some (b, σ) => match cmpV σ op a b with | some c => some (c, σ) | none => none
        | none => none
      | none => none
    | [op, op2], [r, r2] => match evE C l env.scope ρ σ with
      | some (a, σ) => match evE C r env.scope ρ σ with
        | some (b, σ) => match cmpV σ op a b with
          | some true => match evE C r2 env.scope ρ σ with
            | some (c, σ) => match cmpV σ op2 b c with | some d => some (d, σ) | none => none
            | none => none
          | some false => some (false, σ)
          | none => none
        | none => none
      | none => none
    | _, _ => none) = some (v, σ') := by
    rw [← e]
    rcases ops with _ | ⟨op, _ | ⟨op2, _ | ⟨_, _⟩⟩⟩ <;> rcases rs with _ | ⟨r, _ | ⟨r2, _ | ⟨_, _⟩⟩⟩ <;> rfl
  split at e
  · rename_i op r
    split at e
    · rename_i a σ₁ ea
      split at e
      · rename_i b σ₂ eb
        split at e
        · rename_i z ez; cases e
          refine wpAny_isTrue_Compare1 ((hl A env ρ σ θ h a σ₁ N I ea).use ?_) (marks_no r ez)
          rintro va h₁ t₁ ⟨θ₁, S₁, qa⟩
          have I₁ := I.step S₁
          refine (hr r (List.mem_singleton.mpr rfl) A env ρ σ₁ θ₁ h₁ b _ N I₁ eb).use ?_
          rintro vb h₂ t₂ ⟨θ₂, S₂, qb⟩
          refine (wp_cmp S₂.rep (by omega) ez (qa.step I₁.rep S₂) qb).use ?_
          rintro vz h₃ t₃ ⟨rfl, rfl⟩
          exact wpAny_truthy_bool ⟨_, t₃, rfl, rfl, θ₂, S₁.trans S₂⟩
        · cases e
      · cases e
    · cases e
  · rename_i op op2 r r2
    have hm1 : r ∈ [r, r2] := List.mem_cons_self
    have hm2 : r2 ∈ [r, r2] := List.mem_cons_of_mem _ (List.mem_singleton.mpr rfl)
    split at e
    · rename_i a σ₁ ea
      split at e
      · rename_i b σ₂ eb
        rw [arm_isTrue_Compare]
        refine wpAny_bind ((hl A env ρ σ θ h a σ₁ N I ea).use ?_)
        rintro va h₁ t₁ ⟨θ₁, S₁, qa⟩
        have I₁ := I.step S₁
        have first (z : Bool) (ez : cmpV σ₂ op a b = some z) (P : Bool → Heap → Prop) (θ₂ : Th) (hz : ∀ vb h₂ θ₂, Stp c σ₂ θ₁ θ₂ h₁ h₂ → RV θ₂ h₂ b vb → Inv c env ρ σ₂ θ₂ h₂ →
            WP c A (if z = true then testChain p vb [op2] (markedEach [op2] [r2] (evalEach [r2] env)) else pure false) h₂ P) :
            wpAny (model c.prog c.w) A (testChain p va [op, op2] (markedEach [op, op2] [r, r2] (evalEach [r, r2] env))) (fun v s' => ∃ h' n', s' = ⟨h', c.gens, c.drawn, n', c.os⟩ ∧ P v h') (fun _ _ => False) ⟨h₁, c.gens, c.drawn, t₁, c.os⟩ := by
          show wpAny _ A (do
            let rv ← holding [va] (eval r env)
            standAt p
            let cc ← holding [va, rv] (compareOp op va rv)
            release [va, rv] [cc]
            if ← holding [cc, rv] (truthy cc) then testChain p rv [op2] (markedEach [op2] [r2] (evalEach [r2] env)) else pure false) _ _ _
          refine wpAny_bind (wpAny_holding ((hr r hm1 A env ρ σ₁ θ₁ h₁ b _ N I₁ eb).use ?_))
          rintro vb h₂ t₂ ⟨θ₂, S₂, qb⟩
          refine wpAny_bind (wpAny_standAt (wpAny_bind (wpAny_holding ((wp_cmp S₂.rep (by omega) ez (qa.step I₁.rep S₂) qb).use ?_))))
          rintro vz h₃ t₃ ⟨rfl, rfl⟩
          refine wpAny_bind (wpAny_release (wpAny_bind (wpAny_holding (wpAny_truthy_bool ?_))))
          exact hz vb _ θ₂ S₂ qb (I₁.step S₂) t₃
        split at e
        · rename_i ez
          split at e
          · rename_i d σ₃ ed
            split at e
            · rename_i y ey; cases e
              refine first true ez _ θ₁ fun vb h₂ θ₂ S₂ qb I₂ t₂ => ?_
              rw [if_pos rfl]
              show wpAny _ A (do
                let rv ← holding [vb] (markedBehindIn op2 r2 (eval r2 env))
                standAt p
                let cc ← operate [vb, rv] (compareOp op2 vb rv)
                holding [cc] (truthy cc)) _ _ _
              rw [mark_no r2 _ ey]
              refine wpAny_bind (wpAny_holding ((hr r2 hm2 A env ρ σ₂ θ₂ h₂ d _ N I₂ ed).use ?_))
              rintro vd h₃ t₃ ⟨θ₃, S₃, qd⟩
              refine wpAny_bind (wpAny_standAt (wpAny_bind (wpAny_operateT ((wp_cmp S₃.rep (by omega) ey (qb.step I₂.rep S₃) qd).use ?_))))
              rintro vz h₄ t₄ ⟨rfl, rfl⟩
              exact wpAny_holding (wpAny_truthy_bool ⟨_, _, rfl, rfl, θ₃, (S₁.trans S₂).trans S₃⟩)
            · cases e
          · cases e
        · rename_i ez; cases e
          refine first false ez _ θ₁ fun vb h₂ θ₂ S₂ qb I₂ => ?_
          rw [if_neg (by decide)]
          exact WP.pure ⟨rfl, θ₂, S₁.trans S₂⟩
        · cases e
      · cases e
    · cases e
  · cases e

theorem base_plain {o : Expr} (hb : baseOk o = true) (x : Str) (env : Env) (w : Sem Value) : attributeBase o x env w = w := by
  cases o <;> first | rfl | (unfold baseOk at hb; cases hb)
theorem attr_node {o : Expr} (hb : baseOk o = true) (x : Str) (p : Pos) (env : Env) : eval (.Attribute o x p) env = (do
      let v ← eval o env
      standAt p.atName
      let r ← holding [v] (getAttr v x true)
      letTemporaryGo o v r
      pure r) := by rw [arm_eval_Attribute, base_plain hb]
/-- what a talk's dict holds -/
theorem REs.get {θ : Th} {h : Heap} {x : Str} : ∀ {l : List (Str × V)} {es : List DictEntry}, REs θ h l es → match aget l x with
    | some v => ∃ val, getL x es = some (some val) ∧ RV θ h v val
    | none => getL x es = some none
  | [], _, e => by rw [show _ = [] from e]; rfl
  | (y, v) :: l, _, e => by
    obtain ⟨en, r, t, h1, h2, h3, h4⟩ := e
    subst h1
    have ih := REs.get (x := x) h4
    unfold aget
    have hs : en.key.isStr x = (y == x) := by rw [h2]; rfl
    have hr : en.refKey = false := by unfold DictEntry.refKey; rw [h2]
    by_cases hx : y = x
    · rw [if_pos hx]
      refine ⟨en.val, ?_, h3⟩
      unfold getL
      rw [List.find?_cons, hs, show (y == x) = true by simp [hx]]
    · rw [if_neg hx]
      have hf : (y == x) = false := by simp [hx]
      have e2 : getL x (en :: r) = getL x r := by
        unfold getL
        rw [List.find?_cons, hs, hf]
        simp [hr]
      rw [e2]; exact ih
theorem rv_handed {θ : Th} {h : Heap} {v : V} {val : Value} (q : RV θ h v val) (ht : ∀ u, v ≠ .top u) : handedIn val = true := by
  cases v with
  | none => rw [show val = .none from q]; rfl
  | bool b => rw [show val = .bool b from q]; rfl
  | int i => obtain ⟨t, rfl⟩ := q; rfl
  | str s => obtain ⟨t, rfl⟩ := q; rfl
  | tup l => obtain ⟨a, _, _, rfl, _⟩ := q; rfl
  | lst l => obtain ⟨a, _, _, rfl, _⟩ := q; rfl
  | obj i => obtain ⟨p, _, rfl⟩ := q; rfl
  | top u => exact absurd rfl (ht u)
  | lam => obtain ⟨a, rfl, _⟩ := q; rfl
  | rng k => obtain ⟨a, _, _, _, rfl, _⟩ := q; rfl
theorem inst_at {σ : St} {θ : Th} {h : Heap} (r : Rep c σ θ h) {i : Nat} {attrs : List (Str × V)} {p : Addr × Addr} (hσ : σ[i]? = some (.inst attrs)) (hp : θ[i]? = some p) :
    ∃ es m, PySem.W.InstAt h p.1 (instObj 191 p.2) 191 (some (dictOf es m)) ∧ REs θ h attrs es ∧ h.get? p.2 = some (dictOf es m) := by
  obtain ⟨h1, es, m, h2, h3⟩ := r.objs i _ p hσ hp
  exact ⟨es, m, ⟨h1, rfl, rfl, h2⟩, h3, h2⟩
theorem s_Attribute (O : CxOk c) {o : Expr} {x : Str} {p : Pos} (ho : SE c n C o) : SE c n C (.Attribute o x p) := by
  intro A env ρ σ θ h v σ' N I e tk
  rw [evE] at e
  split at e
  · rename_i hb
    split at e
    · rename_i i σ₁ eo
      split at e
      · rename_i attrs hσ
        split at e
        · rename_i hx
          split at e
          · rename_i u hu
            split at e
            case isFalse => cases e
            rename_i hnt
            cases e
            refine Attribute_any_ ((ho A env ρ σ θ h _ _ N I eo).use ?_) (attr_node hb x p env)
            rintro val h₁ t₁ ⟨θ₁, S₁, pp, hp, rfl⟩
            obtain ⟨es, m, J, hes, _⟩ := inst_at S₁.rep hσ hp
            have g := hes.get (x := x)
            rw [hu] at g
            obtain ⟨va, g1, g2⟩ := g
            have hX : c.K.In h₁ := fun a o q => S₁.rep.stay a o (O.X a o q)
            refine get_value hX J O.k.ga (findObj_own O.k.hasD (O.k.attr x hx).1 rfl g1) (rv_handed g2 fun u q => by rw [q] at hnt; cases hnt) ⟨h₁, _, rfl, θ₁, S₁, g2⟩
          · cases e
        · cases e
      · cases e
    · cases e
  · cases e
end Mine

end
section
open PySem PySem.W PyProof.Rows
set_option Elab.async false
namespace Mine
variable {c : Cx} {n : Nat} {C : Oracle}

/-- one object changed in its own place -/
theorem Rep.upd {σ : St} {θ : Th} {h h' : Heap} (r : Rep c σ θ h) {i : Nat} {m m' : MO} {p : Addr × Addr} (hσ : σ[i]? = some m) (hp : θ[i]? = some p) (hs : ∀ b, b ≠ p.2 → h'.get? b = h.get? b) (ho : RO c θ h' m' p) : Stp c (σ.set i m') θ θ h h' := by
  have hm : p.2 ∈ muts θ := List.mem_map.mpr ⟨p, List.mem_of_getElem? hp, rfl⟩
  have K : Kp θ θ h h' := ⟨⟨[], by simp⟩, fun b o hb _ e => (hs b fun q => hb (q ▸ hm)).trans e, fun _ q => .inl q⟩
  refine ⟨⟨fun b o e => (hs b fun q => ?_).trans (r.stay b o e), by simp [r.len], r.nodup, r.off, r.offT, fun j mj pj h1 h2 => ?_, fun P hP => ?_⟩, K⟩
  · have := (r.off _ hm).1
    rw [← q, e] at this; cases this
  · by_cases hj : i = j
    · subst hj
      rw [hp] at h2; cases h2
      have hl : i < σ.length := (List.getElem?_eq_some_iff.mp hσ).1
      simp [hl] at h1
      subst h1; exact ho
    · rw [List.getElem?_set_ne hj] at h1
      refine (r.objs j mj pj h1 h2).keeps K r.tabD r.mutD (hs _ fun q => hj ?_)
      have l1 := (List.getElem?_eq_some_iff.mp hp).1
      have l2 := (List.getElem?_eq_some_iff.mp h2).1
      have e1 : (muts θ)[i]? = some p.2 := by unfold muts; rw [List.getElem?_map, hp]; rfl
      have e2 : (muts θ)[j]? = some pj.2 := by unfold muts; rw [List.getElem?_map, h2]; rfl
      exact (List.getElem?_inj (by unfold muts; simpa using l1) r.nodup).mp (by rw [e1, e2, q])
  · refine (r.tab P hP).keeps K r.mutD (hs _ fun q => (r.off _ hm).2 (q ▸ hP))

theorem no_star : ∀ {es : List Expr} {sc : Scope} {ρ : Rho} {σ : St} {vs : List V} {σ' : St} {env : Env} {pos : Pos}, evEs C es sc ρ σ = some (vs, σ') → (backTo pos (starEach es env)).any (·.1) = false ∧ (backTo pos (starEach es env)).all (fun x => !x.1) = true ∧ (starEach es env).length = es.length
  | [], _, _, _, _, _, _, _, _ => ⟨rfl, rfl, rfl⟩
  | x :: r, sc, ρ, σ, vs, σ', env, pos, e => by
    have hstar : starEach (x :: r) env = (false, eval x env) :: starEach r env := by
      cases x <;> first | rfl | (cases e; done) | (unfold evEs at e; unfold evE at e; cases e)
    rw [evEs] at e
    split at e
    · split at e
      · rename_i h; cases e
        have ih := no_star (env := env) (pos := pos) h
        rw [hstar]
        exact ⟨by show (false || _) = false; rw [Bool.false_or]; exact ih.1, by show (!false && _) = true; exact ih.2.1, by simp [ih.2.2]⟩
      · cases e
    · cases e

/-- what tells who keeps the call's arguments -/
def KeepP (c : Cx) (f : Value) (h : Heap) : Prop := ∃ k, (k = Keeper.frame ∨ k = Keeper.machine ∨ k = Keeper.boundFrame) ∧ Looks (model c.prog c.w) h (keeperOf f) k

theorem wp_callWith {A : Around} {env : Env} {ρ : Rho} {σ σ' : St} {θ : Th} {h : Heap} {args : List Expr} {vs : List V} {f : Value} {first : List Value} {pos : Pos} {P : Value → Heap → Prop} (hs : SEs c n C args) (N : EnvOk c n A env) (I : Inv c env ρ σ θ h) (e : evEs C args env.scope ρ σ = some (vs, σ'))
    (hk : ∀ θ' h', Stp c σ' θ θ' h h' → KeepP c f h') (k : ∀ θ' h' vals, Stp c σ' θ θ' h h' → RVs θ' h' vs vals → WP c A (call f (first ++ vals)) h' P) : WP c A (callWith pos f first (backTo pos (starEach args env)) []) h P := by
  intro tk
  have ns := no_star (env := env) (pos := pos) e
  refine callWith_of (P := KeepP c f) (by rw [ns.1]; rfl) (fun _ x => x) ?_
  have go : wpAny (model c.prog c.w) A (spliced (backTo pos (starEach args env))) (fun vals s₁ => KeepP c f s₁.heap ∧ wpAny (model c.prog c.w) A (call f (first ++ vals) []) (fun v s' => ∃ h' n', s' = ⟨h', c.gens, c.drawn, n', c.os⟩ ∧ P v h') (fun _ _ => False) s₁) (fun _ _ => False) ⟨h, c.gens, c.drawn, tk, c.os⟩ := by
    refine (hs A env ρ σ θ h vs σ' pos N I e).use ?_
    rintro vals h₁ t₁ ⟨θ₁, S₁, q⟩
    exact ⟨hk θ₁ h₁ S₁, k θ₁ h₁ vals S₁ q t₁⟩
  cases args with
  | nil =>
    rw [evEs] at e; cases e
    exact evalArgs_nil3 ⟨hk θ h (Stp.refl I.rep), k θ h [] (Stp.refl I.rep) rfl tk⟩
  | cons x r =>
    have hstar : starEach (x :: r) env = (false, eval x env) :: starEach r env := by
      cases x <;> first | rfl | (cases e; done) | (unfold evEs at e; unfold evE at e; cases e)
    rw [hstar] at go ⊢
    exact Calls.evalArgs_plain go

theorem keepP_K {f : Addr} (O : CxOk c) {σ : St} {θ : Th} {h : Heap} (r : Rep c σ θ h) (hk : keepIn c.K (.ref f) = true) : KeepP c (.ref f) h := by
  obtain ⟨k, a, b⟩ := looks_keep (M := model c.prog c.w) hk (fun a o q => r.stay a o (O.X a o q))
  exact ⟨k, a.elim .inl (fun e => .inr (.inl e)), b⟩
theorem keepP_plain {f : Value} (hf : ∀ a, f ≠ .ref a) (h : Heap) : KeepP c f h := by
  refine ⟨.machine, .inr (.inl rfl), Looks.of_pure ?_⟩
  cases f <;> first | rfl | exact absurd rfl (hf _)

theorem call_name {x : Str} {q p : Pos} {args : List Expr} {env : Env} : eval (.Call (.Name x q) args [] p) env = (eval (.Name x q) env >>= fun f => callWith p f [] (backTo p (starEach args env)) []) := rfl

/-- a new object of the class -/
theorem wp_make (O : CxOk c) {A : Around} {σ σ' : St} {θ : Th} {h : Heap} {vs : List V} {vals : List Value} (hA : A.handled = none) (hd : A.depth + 5 * n + 3 ≤ 500) (hu : A.units + 200 * n + 400 ≤ 4000) (H : SC c n C) (r : Rep c σ θ h) (q : RVs θ h vs vals)
    (e : C 99 (.obj σ.length :: vs) (σ ++ [.inst []]) = some (.none, σ')) : WP c A (call (.ref 191) vals) h fun val h' => ∃ θ', Stp c σ' θ θ' h h' ∧ RV θ' h' (.obj σ.length) val := by
  intro tk
  have hX : c.K.In h := fun a o q => r.stay a o (O.X a o q)
  refine wpAny_call (make_core (makes_of hX O.k.makes) (looks_findIn hX O.k.init) (fun self => bind_fn hX self O.k.initF) (.inl rfl) ?_)
  have e1 : ((h.push emptyDict).push (instObj 191 h.objs.size)).get? (h.objs.size + 1) = some (instObj 191 h.objs.size) := by
    have : ((h.push emptyDict).push (instObj 191 h.objs.size)).get? (h.push emptyDict).objs.size = some (instObj 191 h.objs.size) := Heap.get?_push_size _ rfl
    rwa [Heap.size_push] at this
  have e2 : ((h.push emptyDict).push (instObj 191 h.objs.size)).get? h.objs.size = some emptyDict := Heap.get?_push_of_some _ (Heap.get?_push_size _ rfl)
  have S := r.add (m := .inst []) (p := (h.objs.size + 1, h.objs.size)) (h' := (h.push emptyDict).push (instObj 191 h.objs.size)) (fun b o e => Heap.get?_push_of_some _ (Heap.get?_push_of_some _ e)) (none_size h)
    ⟨e1, [], 0, e2, rfl⟩
  have := (H 99 _ _ _ _ e).2 (A.under (.builtin "type.__call__" ⟨.ref 191 :: vals, []⟩)) (θ ++ [(h.objs.size + 1, h.objs.size)]) _ (.ref (h.objs.size + 1) :: vals) (by exact hA) (by show A.depth + 1 + _ + _ ≤ _; omega) (by rw [units_under_make]; omega) S.rep ⟨_, _, rfl, ⟨_, new_at r _, rfl⟩, q.step r S⟩ tk
  refine codeAny_mono this ?_
  rintro rr s' ⟨v, h', n', rfl, rfl, θ', S', rfl⟩
  refine ⟨rfl, h', n', rfl, θ', S.trans S', ?_⟩
  exact RV.step (x := .obj σ.length) (σ := σ ++ [.inst []]) ⟨_, new_at r _, rfl⟩ S.rep S'

end Mine

end
section
open PySem PySem.W PyProof.Rows
set_option Elab.async false
namespace Mine

theorem zip_find : ∀ (ns : List Str) (vs : List Value), ns.Nodup → ns.length = vs.length → (ns.filterMap fun n => ((ns.zip vs).lookup n).map (n, ·)) = ns.zip vs
  | [], vs, _, _ => rfl
  | n :: r, v :: s, hn, hl => by
    obtain ⟨h1, h2⟩ := List.nodup_cons.mp hn
    have ih := zip_find r s h2 (by simpa using hl)
    rw [List.zip_cons_cons, List.filterMap_cons, List.lookup_cons_self]
    show (n, v) :: _ = _
    congr 1
    have go : ∀ (l : List Str), (∀ x ∈ l, x ≠ n) → (l.filterMap fun x => (((n, v) :: r.zip s).lookup x).map (x, ·)) = l.filterMap fun x => ((r.zip s).lookup x).map (x, ·) := by
      intro l
      induction l with
      | nil => intro _; rfl
      | cons y l ihl =>
        intro hx
        have hne : (y == n) = false := beq_eq_false_iff_ne.mpr (hx y List.mem_cons_self)
        rw [List.filterMap_cons, List.filterMap_cons, List.lookup_cons, hne, ihl fun x q => hx x (List.mem_cons_of_mem _ q)]
    rw [go r fun x hx q => h1 (q ▸ hx)]
    exact ih
theorem zip_some : ∀ (ns : List Str) (vs : List Value), ns.length = vs.length → ∀ n ∈ ns, ((ns.zip vs).lookup n).isNone = false
  | [], _, _, _, h => nomatch h
  | m :: r, v :: s, hl, n, h => by
    rw [List.zip_cons_cons, List.lookup_cons]
    cases hb : n == m with
    | true => rfl
    | false =>
      rcases List.mem_cons.mp h with rfl | h
      · simp at hb
      · exact zip_some r s (by simpa using hl) n h
theorem bind_plain (fd : FuncData) {as : List Arg} {ds : List Expr} {vals : List Value} (hp : fd.params = ⟨[], as, none, [], [], none, ds⟩) (hd : fd.defaults = .none) (nd : (as.map (·.arg)).Nodup) (hl : as.length = vals.length) :
    bindArgs fd ⟨vals, []⟩ = pure ((as.map (·.arg)).zip vals) := by
  have hl' : (as.map (·.arg)).length = vals.length := by simpa using hl
  have e1 : ¬ (decide (vals.length > (as.map (·.arg)).length) && true) = true := by simp; omega
  unfold bindArgs
  rw [hp, hd]
  refine Eq.trans (b := ite ((decide (vals.length > (as.map (·.arg)).length) && true) = true) _ _) rfl ((if_neg e1).trans ?_)
  clear e1 hp hd
  generalize as.map (·.arg) = ns at nd hl' ⊢
  have e2 : (List.filter (fun n => (ns.zip vals |>.lookup n).isNone) ns) = [] := by
    rw [List.filter_eq_nil_iff]
    intro n hn
    rw [zip_some _ _ hl' n hn]; decide
  have e3 := zip_find _ _ nd hl'
  simp [e2, e3]
end Mine

end
section
open PySem PySem.W PyProof.Rows
set_option Elab.async false
namespace Mine
variable {c : Cx} {n : Nat} {C : Oracle}

/-- a lambda's call -/
theorem wp_lam (O : CxOk c) {A : Around} {σ : St} {θ : Th} {h : Heap} {a : Addr} {v : Value} (hd : A.depth < 600) (r : Rep c σ θ h) (q : LamAt h a) : WP c A (call (.ref a) [v]) h fun val h' => Stp c σ θ θ h h' ∧ val = .none := by
  intro tk
  obtain ⟨fd, p, qp, k, z, e, h1, h2, h3, h4, h5, h6, h7, h8⟩ := q
  obtain ⟨cc, oc, vs, t, e1, e2, e3, e4, e5⟩ := h8
  refine wpAny_call (kla_callFunE (by unfold recursionLimit; omega) e rfl (by rw [h3]) (by rw [h3]) h2 ⟨cc, oc, vs, t, e1, e3, e4, e5⟩ ?_)
  rw [bind_plain fd h1 h6 (by simp) (by simp)]
  refine wpAny_pure ?_
  rw [h3, h4]
  refine wpAny_newFunctionEnv (by intro x hx; rw [List.mem_singleton.mp hx]; exact fun q => by cases q) (by intro x hx; rw [List.mem_singleton.mp hx]; simp [List.lookup]) (fun h₀ hns hsb => ⟨(O.lim.keeps r.stay).fresh _ hsb, ?_⟩) rfl
  have hk : ∀ b o, h.get? b = some o → h₀.get? b = some o := fun b o e => hsb.extBut b o (Nat.ne_of_lt (Heap.lt_size e)) (Heap.get?_push_of_some _ e)
  refine kla_codeExpr ?_
  exact wpAny_Constant_none ⟨h₀, _, rfl, Stp.grow r hk, rfl⟩
end Mine

end
section
open PySem PySem.W PyProof.Rows
set_option Elab.async false
namespace Mine
variable {c : Cx} {n : Nat} {C : Oracle}

theorem keepP_lam {h : Heap} {a : Addr} (q : LamAt h a) : KeepP c (.ref a) h := by
  obtain ⟨fd, p, qp, k, z, e, _⟩ := q
  exact ⟨.frame, .inl rfl, (Looks.ld e).andThen .now⟩
theorem s_Call_name (O : CxOk c) (Y : SysOk c) (H : SC c n C) {x : Str} {q p : Pos} {args : List Expr} (hs : SEs c n C args) : SE c n C (.Call (.Name x q) args [] p) := by
  intro A env ρ σ θ h v σ' N I e
  rw [evE] at e
  rw [call_name]
  refine WP.bind ?_
  try dsimp only at e
  split at e
  · rename_i u hx
    refine (wp_name O N I hx).mono ?_
    rintro f h' ⟨rfl, rfl⟩
    split at e
    · rename_i vs σ₁ ev
      split at e
      · rename_i a
        split at e
        · rename_i ha
          subst ha
          split at e
          · rename_i σ₂ ec; cases e
            refine wp_callWith hs N I ev (fun θ' h' S => keepP_K O S.rep O.k.keepC) fun θ₁ h₁ vals S₁ q => ?_
            refine (wp_make O N.hand (by have := N.depth; omega) (by have := N.units; omega) H S₁.rep q ec).mono ?_
            rintro val h₂ ⟨θ₂, S₂, q₂⟩
            exact ⟨θ₂, S₁.trans S₂, q₂⟩
          · cases e
        · obtain ⟨hk, hc⟩ := H a vs σ₁ v σ' e
          refine wp_callWith hs N I ev (fun θ' h' S => keepP_K O S.rep hk) fun θ₁ h₁ vals S₁ q => ?_
          refine (hc A θ₁ h₁ vals N.hand (by have := N.depth; omega) (by have := N.units; omega) S₁.rep q).wp.mono ?_
          rintro val h₂ ⟨θ₂, S₂, q₂⟩
          exact ⟨θ₂, S₁.trans S₂, q₂⟩
      · rename_i hnr
        split at e
        · rename_i z hz; cases e
          refine wp_callWith hs N I ev (fun θ' h' S => keepP_plain (fun a q => hnr a q) _) fun θ₁ h₁ vals S₁ q => ?_
          refine (wp_bi Y S₁.rep N.hand (units_ok N) hz q).mono ?_
          rintro val h₂ ⟨S₂, q₂⟩
          exact ⟨θ₁, S₁.trans S₂, q₂⟩
        · cases e
    · cases e
  · rename_i hx
    refine (wp_name O N I hx).mono ?_
    rintro f h' ⟨rfl, a, rfl, hnm, hla⟩
    split at e
    · rename_i u σ₁ ev
      cases e
      have q₀ : RV θ h' .lam (.ref a) := ⟨a, rfl, hnm, hla⟩
      refine wp_callWith hs N I ev (fun θ' h₁ S => ?_) fun θ₁ h₁ vals S₁ q => ?_
      · obtain ⟨a', e', _, hl'⟩ := q₀.step I.rep S
        cases e'
        exact keepP_lam hl'
      · obtain ⟨a', e', _, hl'⟩ := q₀.step I.rep S₁
        cases e'
        have hl := q.length
        match vals, hl with
        | [val], _ =>
          refine (wp_lam O (by have := N.depth; omega) S₁.rep hl').mono ?_
          rintro v' h₂ ⟨S₂, rfl⟩
          exact ⟨θ₁, S₁.trans S₂, rfl⟩
    · cases e
  · cases e


end Mine

end
section
open PySem PySem.W PyProof.Rows
set_option Elab.async false
namespace Mine
variable {c : Cx} {n : Nat} {C : Oracle}

theorem form_few {args : List Expr} {sc : Scope} {ρ : Rho} {σ : St} {vs : List V} {σ' : St} {env : Env} {pos : Pos} (e : evEs C args sc ρ σ = some (vs, σ')) (hl : args.length < 30) :
    methodCallForm (args.length + 0) (backTo pos (starEach args env)) [] = true := by
  unfold methodCallForm
  rw [(no_star (env := env) (pos := pos) e).2.1]
  simp; omega
theorem method_call {o : Expr} {name : Str} {apos pos : Pos} {args : List Expr} {env : Env} (hb : baseOk o = true) (hl : (apos.endLine == pos.line) = true) (hf : methodCallForm (args.length + 0) (backTo pos (starEach args env)) [] = true) :
    eval (.Call (.Attribute o name apos) args [] pos) env = (do
      let ov ← eval o env
      standAt apos.atName
      let (f, first) ← holding [ov] (getMethod ov name (do return (← importBound o env).getD true))
      callWith pos f first (backTo pos (starEach args env)) []) := by
  rw [arm_eval_Call, base_plain hb]
  have e : ∀ ov, methodCall o name apos pos env ov (args.length + ([] : List Keyword).length) (backTo pos (starEach args env)) (backToKw pos (keywordEach [] env)) = (do
      let (f, first) ← holding [ov] (getMethod ov name (do return (← importBound o env).getD true))
      callWith pos f first (backTo pos (starEach args env)) []) := by
    intro ov
    have ek : backToKw pos (keywordEach [] env) = [] := rfl
    unfold methodCall
    rw [ek]
    show (do
      let (f, first) ← holding [ov] (calleeOf (methodCallForm (args.length + 0) (backTo pos (starEach args env)) []) o env ov name)
      let callPos ← methodCallPos (methodCallForm (args.length + 0) (backTo pos (starEach args env)) []) o env apos pos
      callWith callPos f first (backTo pos (starEach args env)) []) = _
    rw [hf]
    have e2 : methodCallPos true o env apos pos = pure pos := by
      unfold methodCallPos
      rw [hl]; rfl
    rw [e2]
    rfl
  simp only [e]

theorem shadow_none {θ : Th} {h : Heap} {x : Str} {l : List (Str × V)} {es : List DictEntry} {k : Nat} (q : REs θ h l es) (e : aget l x = none) : shadowIn (some (dictOf es k)) x = some false := by
  have g := q.get (x := x)
  rw [e] at g
  show (getL x es).map _ = _
  rw [g]; rfl
theorem Rep.change {σ : St} {θ : Th} {h h' : Heap} (r : Rep c σ θ h) {i : Nat} {p : Addr × Addr} (hp : θ[i]? = some p) (hs : ∀ b, b ≠ p.2 → h'.get? b = h.get? b) : Kp θ θ h h' := by
  have hm : p.2 ∈ muts θ := List.mem_map.mpr ⟨p, List.mem_of_getElem? hp, rfl⟩
  exact ⟨⟨[], by simp⟩, fun b o hb _ e => (hs b fun q => hb (q ▸ hm)).trans e, fun _ q => .inl q⟩
/-- a list made longer in its place -/
theorem wp_extend {A : Around} {σ : St} {θ : Th} {h : Heap} (r : Rep c σ θ h) {i : Nat} {l k : List V} {p : Addr × Addr} {val : Value} (hσ : σ[i]? = some (.list l)) (hp : θ[i]? = some p) (hl : l.length + k.length ≤ 1000) (q : RV θ h (.lst k) val) :
    WP c A (call (.builtin "list.extend") [.ref p.1, val]) h fun v h' => Stp c (σ.set i (.list (l ++ k))) θ θ h h' ∧ v = .none := by
  intro tk
  obtain ⟨e1, vs, m, h2, h3, h4⟩ := r.objs i _ p hσ hp
  obtain ⟨b, ws, m2, rfl, g2, g3, g4, g5⟩ := q
  rw [e1]
  have hz : vs.length + ws.length ≤ 1000 := by rw [h4.length, g5.length]; exact hl
  have hsz : vs.toArray.size + ws.toArray.size ≤ sizeLine := by rw [sizeLine_eq]; simp; omega
  refine call_meets PySem.F.slot_list_extend ⟨_, h2, rfl⟩ PySem.F.entry_list_extend (PySem.F.args_list_extend_2 _ _) (AutoSeq1.list_extend_list_list_0 p.2 vs.toArray m b ws.toArray m2 (extend_door hsz) (Nat.le_trans (Nat.le_add_right _ _) hsz) (Nat.le_succ_of_le hsz)) ⟨h2, g2, ?_⟩
  have e : vs.toArray ++ ws.toArray = (vs ++ ws).toArray := by simp
  have ho' : (h.update p.2 (Obj.mapSeq fun x => x ++ ws.toArray)).get? p.2 = some (lstO (vs ++ ws) (if (vs.toArray ++ ws.toArray).size == vs.toArray.size then m else m + 1)) := by
    rw [Heap.get?_update_self _ h2 (by rw [mapSeq_app]; rfl), mapSeq_app, e]
  refine ⟨_, tk, rfl, ?_, rfl⟩
  have hs : ∀ b, b ≠ p.2 → (h.update p.2 (Obj.mapSeq fun x => x ++ ws.toArray)).get? b = h.get? b := (Heap.SameBut.update ..).2
  have K := r.change hp hs
  refine r.upd hσ hp hs ⟨e1, _, _, ho', by unfold lcap; simp; omega, ?_⟩
  exact RVs.append (RVs.keeps K r.tabD r.mutD _ _ h4) (RVs.keeps K r.tabD r.mutD _ _ g5)
theorem s_Call_attr (O : CxOk c) (H : SC c n C) {o : Expr} {name : Str} {apos pos : Pos} {args : List Expr} (ho : SE c n C o) (hs : SEs c n C args) : SE c n C (.Call (.Attribute o name apos) args [] pos) := by
  intro A env ρ σ θ h v σ' N I e tk
  rw [evE] at e
  try dsimp only at e
  split at e
  case isFalse => cases e
  rename_i hc
  rw [Bool.and_eq_true, Bool.and_eq_true, decide_eq_true_eq] at hc
  obtain ⟨⟨hb, hl⟩, hn⟩ := hc
  split at e
  · rename_i i σ₁ eo
    split at e
    · rename_i attrs hσ
      split at e
      · rename_i a ha
        split at e
        · rename_i hg
          split at e
          · rename_i vs σ₂ ev
            rw [method_call hb hl (form_few ev hn)]
            refine wpAny_bind ((ho A env ρ σ θ h _ _ N I eo).use ?_)
            rintro ov h₁ t₁ ⟨θ₁, S₁, p, hp, rfl⟩
            have I₁ := I.step S₁
            refine wpAny_bind (wpAny_standAt (wpAny_bind (wpAny_holding ?_)))
            obtain ⟨es, m, J, hes, _⟩ := inst_at S₁.rep hσ hp
            have hX : c.K.In h₁ := fun a o q => S₁.rep.stay a o (O.X a o q)
            obtain ⟨k1, k2, k3, k4⟩ := O.k.meth name a ha
            refine method_fn hX J O.k.ga O.k.ga' k1 (by simpa [isFn] using k2) (shadow_none hes hg) ?_
            refine (wp_callWith (first := [.ref p.1]) (P := fun val h' => ∃ θ', Stp c σ' θ θ' h h' ∧ RV θ' h' v val) hs N I₁ ev (fun θ' h' S => keepP_K O S.rep k3) fun θ₂ h₂ vals S₂ q => ?_).use ?_
            · obtain ⟨hk, hcl⟩ := H a _ σ₂ v σ' e
              refine (hcl A θ₂ h₂ (.ref p.1 :: vals) N.hand (by have := N.depth; omega) (by have := N.units; omega) S₂.rep ⟨_, _, rfl, ⟨p, S₂.kp.at hp, rfl⟩, q⟩).wp.mono ?_
              rintro val h₃ ⟨θ₃, S₃, q₃⟩
              exact ⟨θ₃, (S₁.trans S₂).trans S₃, q₃⟩
            · intro val h' n' z; exact ⟨h', n', rfl, z⟩
          · cases e
        · cases e
      · cases e
    · rename_i l hσ
      split at e
      case isFalse => cases e
      rename_i hname
      split at e
      · rename_i k σ₂ ev
        split at e
        · rename_i l' hσ'
          split at e
          · rename_i hlen; cases e
            rw [method_call hb hl (form_few ev hn)]
            refine wpAny_bind ((ho A env ρ σ θ h _ _ N I eo).use ?_)
            rintro ov h₁ t₁ ⟨θ₁, S₁, p, hp, rfl⟩
            have I₁ := I.step S₁
            refine wpAny_bind (wpAny_standAt (wpAny_bind (wpAny_holding ?_)))
            obtain ⟨e1, vs, m, h2, h3, h4⟩ := S₁.rep.objs i _ p hσ hp
            rw [hname, e1]
            refine getMethod_builtin (T := "list") ⟨_, h2, rfl⟩ PySem.F.plainAttrs_list PySem.F.slot_list_extend PySem.F.type_list_extend (fun a q => by cases q; exact ⟨_, h2, rfl⟩) ?_
            refine (wp_callWith (first := [.ref p.2]) (P := fun val h' => ∃ θ', Stp c (σ₂.set i (.list (l' ++ k))) θ θ' h h' ∧ RV θ' h' .none val) hs N I₁ ev (fun θ' h' S => keepP_plain (f := .builtin "list.extend") (fun _ q => nomatch q) _) fun θ₂ h₂ vals S₂ q => ?_).use ?_
            · obtain ⟨val, r', rfl, q1, q2⟩ := q
              rw [show r' = [] from q2]
              have hp' := S₂.kp.at hp
              have w := wp_extend (A := A) S₂.rep hσ' hp' hlen q1
              rw [e1] at w
              refine w.mono ?_
              rintro v' h₃ ⟨S₃, rfl⟩
              exact ⟨θ₂, (S₁.trans S₂).trans S₃, rfl⟩
            · intro val h' n' z; exact ⟨h', n', rfl, z⟩
          · cases e
        · cases e
      · cases e
    · cases e
  · rename_i σ₁ eo
    split at e
    case isFalse => cases e
    rename_i hname
    split at e
    · rename_i vs σ₂ ev
      rw [method_call hb hl (form_few ev hn)]
      refine wpAny_bind ((ho A env ρ σ θ h _ _ N I eo).use ?_)
      rintro ov h₁ t₁ ⟨θ₁, S₁, rfl⟩
      have I₁ := I.step S₁
      refine wpAny_bind (wpAny_standAt (wpAny_bind (wpAny_holding ?_)))
      have hX : c.K.In h₁ := fun a o q => S₁.rep.stay a o (O.X a o q)
      obtain ⟨mc, d1, d2⟩ := O.k.dinit
      rw [hname]
      refine method_cls hX O.k.dga (cls_value hX d1 d2 rfl ?_)
      refine (wp_callWith (first := []) (P := fun val h' => ∃ θ', Stp c σ' θ θ' h h' ∧ RV θ' h' v val) hs N I₁ ev (fun θ' h' S => keepP_K O S.rep O.k.keepD) fun θ₂ h₂ vals S₂ q => ?_).use ?_
      · obtain ⟨hk, hcl⟩ := H 57 _ σ₂ v σ' e
        refine (hcl A θ₂ h₂ vals N.hand (by have := N.depth; omega) (by have := N.units; omega) S₂.rep q).wp.mono ?_
        rintro val h₃ ⟨θ₃, S₃, q₃⟩
        exact ⟨θ₃, (S₁.trans S₂).trans S₃, q₃⟩
      · intro val h' n' z; exact ⟨h', n', rfl, z⟩
    · cases e
  · cases e
end Mine

end
section
open PySem PySem.W PyProof.Rows
set_option Elab.async false
namespace Mine
variable {c : Cx} {n : Nat} {C : Oracle}

theorem among_snoc {pos : Pos} {a b : Int} {cv v : Value} (l : List Value) (h : TriplesOk l) (e : codeAmong pos (l ++ [rawInt a, rawInt b, cv]) = some v) : codeAmong pos l = some v ∨ v = cv := by
  fun_induction TriplesOk l with
  | case1 =>
    simp only [List.nil_append, rawInt, codeAmong] at e
    split at e
    · cases e; exact .inr rfl
    · cases e
  | case2 a' t b' u x rest ih =>
    simp only [List.cons_append, codeAmong] at e ⊢
    split at e
    · rename_i hc; cases e; rw [if_pos hc]; exact .inl rfl
    · rename_i hc; rw [if_neg hc]; exact ih h e
  | case3 l h1 h2 => exact h.elim

/-- a table of codes grown -/
theorem Rep.tabchange {σ : St} {θ : Th} {h h' : Heap} (r : Rep c σ θ h) {P : Addr} (hP : P ∈ tabs) (hx : Heap.ExtBut P h h') (ht : TabOk h' P) : Stp c σ θ θ h h' := by
  have K : Kp θ θ h h' := ⟨⟨[], by simp⟩, fun b o _ hb e => hx b o (fun q => hb (q ▸ hP)) e, fun _ q => .inl q⟩
  have same : ∀ b o, b ≠ P → h.get? b = some o → h'.get? b = h.get? b := fun b o hb e => by rw [e, hx b o hb e]
  refine ⟨⟨fun b o e => hx b o (fun q => ?_) (r.stay b o e), r.len, r.nodup, r.off, r.offT, fun i m p h1 h2 => ?_, fun P' hP' => ?_⟩, K⟩
  · rw [q, r.offT P hP] at e; cases e
  · have hm : p.2 ∈ muts θ := List.mem_map.mpr ⟨p, List.mem_of_getElem? h2, rfl⟩
    obtain ⟨o, e, _⟩ := r.mutD p.2 hm
    exact (r.objs i m p h1 h2).keeps K r.tabD r.mutD (same _ o (fun q => (r.off _ hm).2 (q ▸ hP)) e)
  · by_cases hq : P' = P
    · rw [hq]; exact ht
    · obtain ⟨ps, e, _⟩ := r.tab P' hP'
      exact (r.tab P' hP').keeps K r.mutD (same _ _ hq e)
theorem new_off {σ : St} {θ : Th} {h : Heap} (r : Rep c σ θ h) {a : Addr} (ha : h.objs.size ≤ a) : a ∉ muts θ ∧ a ∉ tabs := by
  refine ⟨fun q => ?_, fun q => ?_⟩
  · obtain ⟨o, e, _⟩ := r.mutD a q
    exact absurd (Heap.lt_size e) (Nat.not_lt.mpr ha)
  · obtain ⟨ps, e⟩ := r.tabD a q
    exact absurd (Heap.lt_size e) (Nat.not_lt.mpr ha)

theorem isNone_of : ∀ {e : Expr}, isNone e = true → ∃ k p, e = .Constant .none k p := by
  intro e h
  cases e <;> first | exact (Bool.noConfusion h) | skip
  rename_i c k p
  cases c <;> first | exact (Bool.noConfusion h) | exact ⟨k, p, rfl⟩
theorem onlyArg_of : ∀ {l : List Arg} {p : Str}, onlyArg l = some p → ∃ pz, l = [⟨p, none, pz⟩]
  | [], _, h => by cases h
  | [⟨x, none, q⟩], p, h => by cases h; exact ⟨q, rfl⟩
  | [⟨x, some _, q⟩], p, h => by cases h
  | _ :: _ :: _, _, h => by cases h
theorem lamB_of {ps : Arguments} {body : Expr} {ls : Scope} (h : lamB ps body ls = true) : ∃ p pz k pp, ps = ⟨[], [⟨p, none, pz⟩], none, [], [], none, []⟩ ∧ body = .Constant .none k pp ∧ ls = ⟨.function, [(p, .local)], false, false, []⟩ := by
  obtain ⟨po, ar, va, ko, kd, kw, df⟩ := ps
  obtain ⟨ki, nm, g, co, mo⟩ := ls
  unfold lamB at h
  simp only [Bool.and_eq_true, List.isEmpty_iff, Option.isNone_iff_eq_none, Bool.not_eq_true', beq_iff_eq] at h
  obtain ⟨⟨⟨⟨⟨⟨⟨h1, h2⟩, h3⟩, h4⟩, h5⟩, h6⟩, h7⟩, ⟨⟨⟨h8, h9⟩, h10⟩, h11⟩, h12⟩ := h
  subst h1 h2 h3 h4 h5 h6 h8 h9 h10 h11
  obtain ⟨k, pp, rfl⟩ := isNone_of h7
  cases ho : onlyArg ar with
  | none => rw [ho] at h12; cases h12
  | some p =>
    rw [ho] at h12
    obtain ⟨pz, rfl⟩ := onlyArg_of ho
    exact ⟨p, pz, k, pp, rfl, rfl, by rw [of_decide_eq_true h12]⟩
theorem s_Lambda (O : CxOk c) (ps : Arguments) (body : Expr) (ls : Scope) (pos : Pos) : SE c n C (.Lambda ps body ls pos) := by
  intro A env ρ σ θ h v σ' N I e tk
  rw [evE] at e
  split at e
  case isFalse => cases e
  rename_i hlam
  split at e
  case h_2 => cases e
  rename_i hl
  obtain ⟨p, pz, k, pp, rfl, rfl, rfl⟩ := lamB_of hlam
  cases e
  obtain ⟨cd, P, h1, h2, h3, h4⟩ := N.lam hl
  obtain ⟨ps, g1, g2, g3⟩ := I.rep.tab P h2
  have hcl : closureFor ⟨.function, [(p, .local)], false, false, []⟩ env = pure [] := rfl
  have hgP : mainGlobals ≠ P := fun q => by
    obtain ⟨o, es, ep, e, _⟩ := O.gns
    rw [q, I.rep.offT P h2] at e; cases e
  have hb := (O.bat P h2).keeps I.rep.stay
  refine kla_eval rfl ?_
  cases hf : codeAmong pos ps.toList with
  | none =>
    refine kla_makeFunction hcl N.globals (O.gns.keeps I.rep.stay) h1 (h3.keeps I.rep.stay) g1 g2 hf hgP hb fun c' ctv h' tk' hx hge hlt hrec htb => ?_
    obtain ⟨c₂, oc, vs, t, e2, hoc, hd, hv⟩ := hrec
    cases e2
    have ca : CodeAt h' (.ref c') (qualT P) := ⟨c', oc, vs, t, rfl, (new_off I.rep hge).2, hoc, hd, h4 ▸ hv⟩
    have K : Kp θ θ h h' := ⟨⟨[], by simp⟩, fun b o _ hb e => hx b o (fun q => hb (q ▸ h2)) e, fun _ q => .inl q⟩
    have S := I.rep.tabchange h2 hx ⟨_, htb, by rw [Array.toList_append]; exact TriplesOk_snoc _ _ _ _ g2, fun pos' cv q => by
      rw [Array.toList_append] at q
      rcases among_snoc _ g2 q with q | q
      · exact (g3 _ _ q).keeps K I.rep.mutD
      · rw [q]; exact ca⟩
    have S₂ := Stp.grow S.rep (h' := h'.push (kla_obj "<lambda>" (env.qual ++ "<lambda>") ⟨[], [⟨p, none, pz⟩], none, [], [], none, []⟩ (.Constant .none k pp) ⟨.function, [(p, .local)], false, false, []⟩ [] ((c.mg "__name__").getD .none) c' ctv)) fun b o e => Heap.get?_push_of_some _ e
    refine ⟨_, _, rfl, θ, S.trans S₂, h'.objs.size, rfl, (new_off S.rep (Nat.le_refl _)).1, _, p, pz, k, pp, Heap.get?_push_size _ rfl, rfl, rfl, rfl, rfl, rfl, rfl, rfl, ?_⟩
    show CodeAt _ (.ref c') (env.qual ++ "<lambda>")
    have ca' : CodeAt h' (.ref c') (env.qual ++ "<lambda>") := h4 ▸ ca
    exact ca'.keeps S₂.kp S.rep.mutD
  | some cv =>
    refine kla_makeFunctionHit hcl N.globals (O.gns.keeps I.rep.stay) h1 (h3.keeps I.rep.stay) g1 g2 hf hb fun ctv h' tk' hk hsz => ?_
    have S := Stp.grow I.rep hk
    have S₂ := Stp.grow S.rep (h' := h'.push { cls := .type "function", data := .func (kla_fn "<lambda>" (env.qual ++ "<lambda>") ⟨[], [⟨p, none, pz⟩], none, [], [], none, []⟩ (.Constant .none k pp) ⟨.function, [(p, .local)], false, false, []⟩ [] ((c.mg "__name__").getD .none) cv ctv) }) fun b o e => Heap.get?_push_of_some _ e
    refine ⟨_, _, rfl, θ, S.trans S₂, h'.objs.size, rfl, (new_off S.rep (Nat.le_refl _)).1, _, p, pz, k, pp, Heap.get?_push_size _ rfl, rfl, rfl, rfl, rfl, rfl, rfl, rfl, ?_⟩
    show CodeAt _ cv (env.qual ++ "<lambda>")
    have ca' : CodeAt h' cv (env.qual ++ "<lambda>") := h4 ▸ (g3 _ _ hf).keeps S.kp I.rep.mutD
    exact ca'.keeps S₂.kp S.rep.mutD
end Mine

end
section
open PySem PySem.W PyProof.Rows
set_option Elab.async false
namespace Mine
variable {c : Cx} {n : Nat} {C : Oracle}

/-- a change at one local object, new objects aside -/
structure Loc (c : Cx) (θ : Th) (h h' : Heap) (a : Addr) : Prop where
  ext : Heap.ExtBut a h h'
  off : a ∉ muts θ ∧ a ∉ tabs
  base : c.b.get? a = none
  lk : ∃ o, h.get? a = some o ∧ LK o
theorem Loc.kpv {θ : Th} {h h' : Heap} {a : Addr} (L : Loc c θ h h' a) : KpV θ θ h h' := by
  obtain ⟨o, e, lk⟩ := L.lk
  exact ⟨⟨[], by simp⟩, fun b o' _ _ n e' => L.ext b o' (fun q => by subst q; rw [e] at e'; cases e'; exact n lk) e', fun _ q => .inl q⟩
theorem Loc.rep {σ : St} {θ : Th} {h h' : Heap} {a : Addr} (L : Loc c θ h h' a) (r : Rep c σ θ h) : Rep c σ θ h' := by
  have K := L.kpv
  have same : ∀ b o, b ≠ a → h.get? b = some o → h'.get? b = h.get? b := fun b o hb e => by rw [e, L.ext b o hb e]
  refine ⟨fun b o e => L.ext b o (fun q => ?_) (r.stay b o e), r.len, r.nodup, r.off, r.offT, fun i m p h1 h2 => ?_, fun P hP => ?_⟩
  · rw [q, L.base] at e; cases e
  · have hm : p.2 ∈ muts θ := List.mem_map.mpr ⟨p, List.mem_of_getElem? h2, rfl⟩
    obtain ⟨o, e, _⟩ := r.mutD p.2 hm
    exact (r.objs i m p h1 h2).keepsV K r.tabD r.mutD (same _ o (fun q => L.off.1 (q ▸ hm)) e)
  · obtain ⟨ps, e, _⟩ := r.tab P hP
    exact (r.tab P hP).keepsV K r.mutD (same _ _ (fun q => L.off.2 (q ▸ hP)) e)

def own (env : Env) (a : Addr) : Prop := a = env.locals ∨ ∃ x, env.cells.lookup x = some a ∧ (env.kindOf x = some .cell ∨ env.kindOf x = some .free)
theorem Frm.keepsV {env : Env} {ρ : Rho} {θ θ' : Th} {h h' : Heap} (F : Frm env ρ θ h) (k : KpV θ θ' h h') (t : TabD h) (d : MutD θ h) (ho : ∀ a o, own env a → h.get? a = some o → h'.get? a = some o) : Frm env ρ θ' h' := by
  obtain ⟨m, ⟨o, es, ep, g, r⟩, hv⟩ := F.ns
  refine ⟨⟨k.off g F.off.1, F.off.2⟩, ⟨m, ⟨o, es, ep, ho _ _ (.inl rfl) g, r⟩, fun x v h1 h2 => ?_⟩, fun x hx => ?_, F.inj⟩
  · obtain ⟨val, h3, h4⟩ := hv x v h1 h2
    exact ⟨val, h3, RV.keepsV k t d _ _ h4⟩
  · obtain ⟨cl, h1, h2, h3, h4, vo, ⟨oc, h5, h6⟩, h7⟩ := F.cells x hx
    refine ⟨cl, h1, k.off h5 h2, h3, h4, vo, ⟨oc, ho _ _ (.inr ⟨x, h1, hx⟩) h5, h6⟩, fun v hv => ?_⟩
    obtain ⟨val, h8, h9⟩ := h7 v hv
    exact ⟨val, h8, RV.keepsV k t d _ _ h9⟩

theorem own_at {env : Env} {ρ : Rho} {θ : Th} {h : Heap} (F : Frm env ρ θ h) {a : Addr} (x : own env a) : ∃ o, h.get? a = some o := by
  rcases x with rfl | ⟨x, hx, hk⟩
  · obtain ⟨m, ⟨o, _, _, g, _⟩, _⟩ := F.ns
    exact ⟨o, g⟩
  · obtain ⟨cl, h1, _, _, _, vo, ⟨oc, h5, _⟩, _⟩ := F.cells x hk
    rw [hx] at h1; cases h1; exact ⟨oc, h5⟩
/-- what a statement keeps: all but the activation's own places -/
structure KpL (X : Addr → Prop) (θ θ' : Th) (h h' : Heap) : Prop where
  ext : ∃ tl, θ' = θ ++ tl
  keep : ∀ b o, b ∉ muts θ → b ∉ tabs → ¬ X b → h.get? b = some o → h'.get? b = some o
  new : ∀ m ∈ muts θ', m ∈ muts θ ∨ (h.get? m = none ∧ m ∉ tabs)
  dom : ∀ b o, h.get? b = some o → ∃ o', h'.get? b = some o'
theorem KpL.refl (X : Addr → Prop) (θ : Th) (h : Heap) : KpL X θ θ h h := ⟨⟨[], by simp⟩, fun _ _ _ _ _ e => e, fun _ hm => .inl hm, fun _ o e => ⟨o, e⟩⟩
theorem KpL.trans {X : Addr → Prop} {θ θ₁ θ₂ : Th} {h h₁ h₂ : Heap} (a : KpL X θ θ₁ h h₁) (b : KpL X θ₁ θ₂ h₁ h₂) : KpL X θ θ₂ h h₂ := by
  obtain ⟨t₁, e₁⟩ := a.ext
  obtain ⟨t₂, e₂⟩ := b.ext
  refine ⟨⟨t₁ ++ t₂, by rw [e₂, e₁, List.append_assoc]⟩, fun x o h1 h2 h3 e => ?_, fun m hm => ?_, fun x o e => ?_⟩
  · have k := a.keep x o h1 h2 h3 e
    refine b.keep x o (fun q => ?_) h2 h3 k
    rcases a.new x q with q | q
    · exact h1 q
    · rw [q.1] at e; cases e
  · rcases b.new m hm with q | q
    · exact a.new m q
    · refine .inr ⟨?_, q.2⟩
      cases e : h.get? m with
      | none => rfl
      | some o => obtain ⟨o', e'⟩ := a.dom m o e; rw [q.1] at e'; cases e'
  · obtain ⟨o', e'⟩ := a.dom x o e
    exact b.dom x o' e'
theorem Stp.dom {σ' : St} {θ θ' : Th} {h h' : Heap} (S : Stp c σ' θ θ' h h') : ∀ b o, h.get? b = some o → ∃ o', h'.get? b = some o' := fun b o e => by
  by_cases h1 : b ∈ muts θ
  · obtain ⟨t, rfl⟩ := S.kp.ext
    obtain ⟨o', e', _⟩ := S.rep.mutD b (by unfold muts at h1 ⊢; rw [List.map_append]; exact List.mem_append_left _ h1)
    exact ⟨o', e'⟩
  · by_cases h2 : b ∈ tabs
    · obtain ⟨ps, e'⟩ := S.rep.tabD b h2; exact ⟨_, e'⟩
    · exact ⟨o, S.kp.keep b o h1 h2 e⟩
theorem Stp.l {σ' : St} {θ θ' : Th} {h h' : Heap} (X : Addr → Prop) (S : Stp c σ' θ θ' h h') : KpL X θ θ' h h' := ⟨S.kp.ext, fun b o h1 h2 _ e => S.kp.keep b o h1 h2 e, S.kp.new, S.dom⟩
/-- a further change at a place that is the activation's own, or new -/
theorem KpL.change {X : Addr → Prop} {θ θ' : Th} {h H H' : Heap} {a : Addr} (k : KpL X θ θ' h H) (hx : Heap.ExtBut a H H') (ha : (X a ∧ ∃ o, H'.get? a = some o) ∨ h.get? a = none) : KpL X θ θ' h H' := by
  refine ⟨k.ext, fun b o h1 h2 h3 e => hx b o (fun q => ?_) (k.keep b o h1 h2 h3 e), k.new, fun b o e => ?_⟩
  · subst q
    rcases ha with ha | ha
    · exact h3 ha.1
    · rw [ha] at e; cases e
  · by_cases hb : b = a
    · subst hb
      rcases ha with ha | ha
      · exact ha.2
      · rw [ha] at e; cases e
    · obtain ⟨o', e'⟩ := k.dom b o e
      exact ⟨o', hx b o' hb e'⟩
theorem KpL.weak {X Y : Addr → Prop} {θ θ' : Th} {h h' : Heap} (k : KpL X θ θ' h h') (w : ∀ a, X a → Y a) : KpL Y θ θ' h h' := ⟨k.ext, fun b o h1 h2 h3 e => k.keep b o h1 h2 (fun q => h3 (w b q)) e, k.new, k.dom⟩
/-- nothing of the activation's own was there before: the outer view -/
theorem KpL.out {X : Addr → Prop} {θ θ' : Th} {h h' : Heap} (k : KpL X θ θ' h h') (hX : ∀ a, X a → h.get? a = none) : Kp θ θ' h h' :=
  ⟨k.ext, fun b o h1 h2 e => k.keep b o h1 h2 (fun q => by rw [hX b q] at e; cases e) e, k.new⟩

def ItAt (θ : Th) (h : Heap) (I : Addr) (it : V) (i : Nat) : Prop := match it with
  | .tup l => ∃ a vs n, h.get? a = some (tupO vs n) ∧ a ∉ muts θ ∧ RVs θ h l vs ∧ h.IsTupleIter I a i
  | .lst l => ∃ a vs n, h.get? a = some (lstO vs n) ∧ a ∉ muts θ ∧ RVs θ h l vs ∧ h.IsListIter I a i
  | .rng n => n ≤ 100 ∧ i ≤ n ∧ IsRangeIter h I (i : Int) ((n : Int) - i) 1
  | .obj j => ∃ p, θ[j]? = some p ∧ h.IsListIter I p.2 i
  | _ => False
theorem ItAt.lk {θ : Th} {h : Heap} {I : Addr} {it : V} {i : Nat} (x : ItAt θ h I it i) : ∃ o, h.get? I = some o ∧ LK o := by
  have go : ∀ (o : Obj) (v : Value) (k : Int), o.data = .fields #[v, .int k 0] → o.cls ≠ .type "range" → LK o := fun o v k e hc => .inr (.inr ⟨⟨_, e, fun q t z => by simp at z⟩, hc⟩)
  unfold ItAt at x
  split at x
  · obtain ⟨a, vs, n, _, _, _, o, e, hc, hd⟩ := x
    exact ⟨o, e, go o _ _ hd (by rw [hc]; exact fun q => absurd (Value.type.inj q) (by decide))⟩
  · obtain ⟨a, vs, n, _, _, _, o, e, hc, hd⟩ := x
    exact ⟨o, e, go o _ _ hd (by rw [hc]; exact fun q => absurd (Value.type.inj q) (by decide))⟩
  · obtain ⟨_, _, e⟩ := x
    exact ⟨_, e, .inr (.inr ⟨⟨_, rfl, fun q t z => by simp [rawInt] at z⟩, fun q => absurd (Value.type.inj q) (by decide)⟩)⟩
  · obtain ⟨p, _, o, e, hc, hd⟩ := x
    exact ⟨o, e, go o _ _ hd (by rw [hc]; exact fun q => absurd (Value.type.inj q) (by decide))⟩
  · exact x.elim
theorem ItAt.keepsV {θ θ' : Th} {h h' : Heap} {I : Addr} {it : V} {i : Nat} (x : ItAt θ h I it i) (k : KpV θ θ' h h') (t : TabD h) (d : MutD θ h) (hI : ∀ o, h.get? I = some o → h'.get? I = some o) : ItAt θ' h' I it i := by
  unfold ItAt at x ⊢
  split at x
  · obtain ⟨a, vs, n, h1, h2, h3, o, e, hc⟩ := x
    exact ⟨a, vs, n, k.keep a _ h2 (t.ne h1 (fun q => by cases q)) (LK.seq rfl) h1, k.off h1 h2, RVs.keepsV k t d _ _ h3, o, hI o e, hc⟩
  · obtain ⟨a, vs, n, h1, h2, h3, o, e, hc⟩ := x
    exact ⟨a, vs, n, k.keep a _ h2 (t.ne h1 (fun q => by cases q)) (LK.seq rfl) h1, k.off h1 h2, RVs.keepsV k t d _ _ h3, o, hI o e, hc⟩
  · exact ⟨x.1, x.2.1, hI _ x.2.2⟩
  · obtain ⟨p, h1, o, e, hc⟩ := x
    exact ⟨p, k.at h1, o, hI o e, hc⟩
  · exact x.elim
end Mine

end
section
open PySem PySem.W PyProof.Rows
set_option Elab.async false
namespace Mine
variable {c : Cx} {n : Nat} {C : Oracle}

theorem wp_iter {A : Around} {σ : St} {θ : Th} {h : Heap} (r : Rep c σ θ h) {it : V} {v : Value} {x : Option V} (q : RV θ h it v) (g : getAt σ it 0 = some x) :
    WP c A (pyIter v) h fun iv h' => iv = .ref h.objs.size ∧ (∃ o, h' = h.push o ∧ o.isFreed = false) ∧ ItAt θ h' h.objs.size it 0 := by
  intro tk
  have old : ∀ (o : Obj) b o', h.get? b = some o' → (h.push o).get? b = some o' := fun o b o' e => Heap.get?_push_of_some _ e
  unfold getAt at g
  split at g
  · obtain ⟨a, vs, m, rfl, h2, h3, h4, h5⟩ := q
    refine wpAny_pyIter_tuple (items := vs.toArray) ⟨_, h2, rfl, _, rfl⟩ ⟨_, tk, rfl, rfl, ⟨_, rfl, rfl⟩, a, vs, m, old _ _ _ h2, h3, ?_, _, Heap.get?_push_size _ rfl, rfl, rfl⟩
    exact RVs.keeps (Kp.grow (old _)) r.tabD r.mutD _ _ h5
  · obtain ⟨a, vs, m, rfl, h2, h3, h4, h5⟩ := q
    refine wpAny_pyIter_list (items := vs.toArray) ⟨_, h2, rfl, _, rfl⟩ ⟨_, tk, rfl, rfl, ⟨_, rfl, rfl⟩, a, vs, m, old _ _ _ h2, h3, ?_, _, Heap.get?_push_size _ rfl, rfl, rfl⟩
    exact RVs.keeps (Kp.grow (old _)) r.tabD r.mutD _ _ h5
  · rename_i k
    obtain ⟨a, t, u, w, rfl, h2, hk, h3⟩ := q
    have hz : Builtin.Range.rangeSize 0 (k : Int) 1 = (k : Int) := by
      rw [rangeSize_one]
      split <;> omega
    have hs : Builtin.Range.small 0 (k : Int) 1 = true := by
      unfold Builtin.Range.small Builtin.Range.rangeFitsLong
      rw [hz]
      have h1 : (1 : Int) > 0 := by decide
      simp only [h1, if_true, Bool.and_eq_true, Bool.or_eq_true, decide_eq_true_eq, beq_iff_eq]
      omega
    refine wpAny_pyIter_range h3 hs ⟨_, tk, rfl, rfl, ⟨_, rfl, rfl⟩, hk, Nat.zero_le _, ?_⟩
    rw [hz]
    exact Heap.get?_push_size _ rfl
  · rename_i j
    obtain ⟨p, hp, rfl⟩ := q
    split at g
    · rename_i l hσ
      obtain ⟨h0, vs, m, h2, h4, h5⟩ := r.objs _ _ p hσ hp
      rw [h0]
      exact wpAny_pyIter_list (items := vs.toArray) ⟨_, h2, rfl, _, rfl⟩ ⟨_, tk, rfl, rfl, ⟨_, rfl, rfl⟩, p, hp, _, Heap.get?_push_size _ rfl, rfl, rfl⟩
    · cases g
  · cases g

/-- what the next item is -/
def NextAt (θ : Th) (h' : Heap) (I : Addr) (it : V) (i : Nat) (rv : Option Value) : Option V → Prop
  | none => rv = none
  | some v => ∃ val, rv = some val ∧ RV θ h' v val ∧ ItAt θ h' I it (i + 1)
theorem wp_next {A : Around} {σ : St} {θ : Th} {h : Heap} (hA : A.handled = none) (r : Rep c σ θ h) {I : Addr} {it : V} {i : Nat} {x : Option V} (q : ItAt θ h I it i) (g : getAt σ it i = some x) (off : I ∉ muts θ ∧ I ∉ tabs) (hb : c.b.get? I = none) :
    WP c A (pyNext (.ref I)) h fun rv h' => Loc c θ h h' I ∧ NextAt θ h' I it i rv x := by
  intro tk
  have lk := q.lk
  have mk (h' : Heap) (e : Heap.ExtBut I h h') : Loc c θ h h' I := ⟨e, off, hb, lk⟩
  have seqItem (l : List V) (vs : List Value) (h5 : RVs θ h l vs) (j : Nat) (v : V) (e : l[j]? = some v) : ∃ val, vs[j]? = some val ∧ RV θ h v val := h5.get e
  have seqEnd (l : List V) (vs : List Value) (h5 : RVs θ h l vs) (j : Nat) (e : l[j]? = none) : vs.toArray[j]? = none := by
    rw [List.getElem?_eq_none_iff] at e
    rw [Array.getElem?_eq_none_iff, List.size_toArray, h5.length]; exact e
  unfold getAt at g
  split at g
  · rename_i l
    obtain ⟨a, vs, m, h1, h2, h3, hit⟩ := q
    cases g
    cases hv : l[i]? with
    | none => exact wpAny_pyNext_tuple_end hA hit ⟨_, h1, rfl, _, rfl⟩ (seqEnd _ _ h3 _ hv) fun h' e => ⟨h', tk, rfl, mk h' e, rfl⟩
    | some v =>
      obtain ⟨val, e1, e2⟩ := seqItem _ _ h3 _ _ hv
      refine wpAny_pyNext_tuple_item hit (items := vs.toArray) ⟨_, h1, rfl, _, rfl⟩ (x := val) (by simpa using e1) fun h' hit' hs => ?_
      have L := mk h' hs.extBut
      refine ⟨h', tk, rfl, L, val, rfl, RV.keepsV L.kpv r.tabD r.mutD _ _ e2, a, vs, m, ?_, h2, RVs.keepsV L.kpv r.tabD r.mutD _ _ h3, hit'⟩
      exact L.kpv.keep a _ h2 (r.tabD.ne h1 (fun q => by cases q)) (LK.seq rfl) h1
  · rename_i l
    obtain ⟨a, vs, m, h1, h2, h3, hit⟩ := q
    cases g
    cases hv : l[i]? with
    | none => exact wpAny_pyNext_list_end hA hit ⟨_, h1, rfl, _, rfl⟩ (seqEnd _ _ h3 _ hv) fun h' e => ⟨h', tk, rfl, mk h' e, rfl⟩
    | some v =>
      obtain ⟨val, e1, e2⟩ := seqItem _ _ h3 _ _ hv
      refine wpAny_pyNext_list_item hit (items := vs.toArray) ⟨_, h1, rfl, _, rfl⟩ (x := val) (by simpa using e1) fun h' hit' hs => ?_
      have L := mk h' hs.extBut
      refine ⟨h', tk, rfl, L, val, rfl, RV.keepsV L.kpv r.tabD r.mutD _ _ e2, a, vs, m, ?_, h2, RVs.keepsV L.kpv r.tabD r.mutD _ _ h3, hit'⟩
      exact L.kpv.keep a _ h2 (r.tabD.ne h1 (fun q => by cases q)) (LK.seq rfl) h1
  · rename_i k
    obtain ⟨hk, hi, hit⟩ := q
    split at g
    · rename_i hlt; cases g
      refine wpAny_pyNext_range_item hit (by omega) fun h' hit' hs => ⟨h', tk + 1, rfl, mk h' hs.extBut, _, rfl, ⟨tk, rfl⟩, hk, hlt, ?_⟩
      have e1 : ((i + 1 : Nat) : Int) = (i : Int) + 1 := by omega
      have e2 : ((k : Int) - ((i + 1 : Nat) : Int)) = (k : Int) - i - 1 := by omega
      rw [e2, e1]; exact hit'
    · rename_i hlt; cases g
      exact wpAny_pyNext_range_end hA hit (by omega) fun h' e => ⟨h', tk, rfl, mk h' e, rfl⟩
  · rename_i j
    obtain ⟨p, hp, hit⟩ := q
    split at g
    · rename_i l hσ
      obtain ⟨h0, vs, m, h1, h4, h3⟩ := r.objs _ _ p hσ hp
      cases g
      cases hv : l[i]? with
      | none => exact wpAny_pyNext_list_end hA hit ⟨_, h1, rfl, _, rfl⟩ (seqEnd _ _ h3 _ hv) fun h' e => ⟨h', tk, rfl, mk h' e, rfl⟩
      | some v =>
        obtain ⟨val, e1, e2⟩ := seqItem _ _ h3 _ _ hv
        refine wpAny_pyNext_list_item hit (items := vs.toArray) ⟨_, h1, rfl, _, rfl⟩ (x := val) (by simpa using e1) fun h' hit' hs => ?_
        have L := mk h' hs.extBut
        exact ⟨h', tk, rfl, L, val, rfl, RV.keepsV L.kpv r.tabD r.mutD _ _ e2, p, hp, hit'⟩
    · cases g
  · cases g
end Mine

end
section
open PySem PySem.W PyProof.Rows
set_option Elab.async false
namespace Mine
variable {c : Cx} {n : Nat} {C : Oracle}

theorem closure_go (env : Env) : ∀ (ns : List (Str × NameKind)) (acc : List (Str × Addr)), (∀ x ∈ ns, x.2 = .free → ∃ a, env.cells.lookup x.1 = some a) →
    ∃ cl, (forIn ns acc fun x r => if (x.2 == .free) = true then do let a ← cellOf env x.1; pure (ForInStep.yield ((x.1, a) :: r)) else pure (ForInStep.yield r)) = (pure (cl ++ acc) : Sem _) ∧
      (∀ y a, (y, a) ∈ cl → env.cells.lookup y = some a ∧ (y, NameKind.free) ∈ ns) ∧ ∀ x ∈ ns, x.2 = .free → ∃ a, (x.1, a) ∈ cl
  | [], acc, _ => ⟨[], rfl, by simp, by simp⟩
  | (y, k) :: r, acc, h => by
    by_cases hk : k = .free
    · subst hk
      obtain ⟨a, ha⟩ := h (y, .free) List.mem_cons_self rfl
      obtain ⟨cl, e, h1, h2⟩ := closure_go env r ((y, a) :: acc) fun x hx => h x (List.mem_cons_of_mem _ hx)
      refine ⟨cl ++ [(y, a)], ?_, ?_, ?_⟩
      · have ec : cellOf env y = pure a := by unfold cellOf; rw [ha]
        simp only [List.forIn_cons, beq_self_eq_true, if_true, ec, pure_bind]
        rw [e]; simp
      · intro z b hz
        rcases List.mem_append.mp hz with hz | hz
        · exact ⟨(h1 z b hz).1, List.mem_cons_of_mem _ (h1 z b hz).2⟩
        · cases List.mem_singleton.mp hz; exact ⟨ha, List.mem_cons_self⟩
      · intro x hx hf
        rcases List.mem_cons.mp hx with rfl | hx
        · exact ⟨a, by simp⟩
        · obtain ⟨b, hb⟩ := h2 x hx hf
          exact ⟨b, List.mem_append_left _ hb⟩
    · obtain ⟨cl, e, h1, h2⟩ := closure_go env r acc fun x hx => h x (List.mem_cons_of_mem _ hx)
      have hf : (k == NameKind.free) = false := beq_eq_false_iff_ne.mpr hk
      refine ⟨cl, ?_, fun z b hz => ⟨(h1 z b hz).1, List.mem_cons_of_mem _ (h1 z b hz).2⟩, fun x hx hf' => ?_⟩
      · simp only [List.forIn_cons, hf, Bool.false_eq_true, if_false, pure_bind]
        exact e
      · rcases List.mem_cons.mp hx with rfl | hx
        · exact absurd hf' hk
        · exact h2 x hx hf'
theorem closure_for (env : Env) (cs : Scope) (h : ∀ x ∈ cs.names, x.2 = .free → ∃ a, env.cells.lookup x.1 = some a) :
    ∃ cl, closureFor cs env = pure cl ∧ (∀ y a, (y, a) ∈ cl → env.cells.lookup y = some a ∧ (y, NameKind.free) ∈ cs.names) ∧ ∀ x ∈ cs.names, x.2 = .free → ∃ a, (x.1, a) ∈ cl := by
  obtain ⟨cl, e, h1, h2⟩ := closure_go env cs.names [] h
  rw [List.append_nil] at e
  refine ⟨cl, ?_, h1, h2⟩
  unfold closureFor
  have e2 : (forIn cs.names ([] : List (Str × Addr)) fun x r => (match x, r with
    | (name, kind), cs => if (kind == .free) = true then do let a ← cellOf env name; pure (ForInStep.yield ((name, a) :: cs)) else pure (ForInStep.yield cs))) = (pure cl : Sem _) := e
  simp only [e2, pure_bind]
end Mine

end
section
open PySem PySem.W PyProof.Rows
set_option Elab.async false
namespace Mine
variable {c : Cx} {n : Nat} {C : Oracle}

theorem lookup_mem {α : Type} : ∀ {l : List (Str × α)} {x : Str} {v : α}, l.lookup x = some v → (x, v) ∈ l
  | [], _, _, e => by cases e
  | (y, u) :: r, x, v, e => by
    rw [List.lookup_cons] at e
    cases hb : x == y with
    | true => rw [hb] at e; cases e; rw [eq_of_beq hb]; exact List.mem_cons_self
    | false => rw [hb] at e; exact List.mem_cons_of_mem _ (lookup_mem e)
theorem mem_lookup {α : Type} : ∀ {l : List (Str × α)} {x : Str} {v : α}, (x, v) ∈ l → ∃ u, l.lookup x = some u
  | [], _, _, e => by cases e
  | (y, u) :: r, x, v, e => by
    rw [List.lookup_cons]
    cases hb : x == y with
    | true => exact ⟨u, rfl⟩
    | false =>
      rcases List.mem_cons.mp e with e | e
      · cases e; simp at hb
      · exact mem_lookup e
theorem relab_go (outer : Scope) (y : Str) : ∀ (l : List (Str × NameKind)), (l.map fun (n, k) => if (k == .free && outer.kind == .function && outer.names.lookup n == some .cell) then (n, .cell) else (n, k)).lookup y =
    (l.lookup y).map fun k => if (k == .free && outer.kind == .function && outer.names.lookup y == some .cell) then .cell else k
  | [] => rfl
  | (z, k) :: r => by
    have ih := relab_go outer y r
    have eg : (if (k == .free && outer.kind == .function && outer.names.lookup z == some .cell) = true then (z, NameKind.cell) else (z, k)) = (z, if (k == .free && outer.kind == .function && outer.names.lookup z == some .cell) = true then .cell else k) := by split <;> rfl
    show List.lookup y ((if (k == .free && outer.kind == .function && outer.names.lookup z == some .cell) = true then (z, NameKind.cell) else (z, k)) :: _) = _
    rw [eg, List.lookup_cons, List.lookup_cons]
    cases hb : y == z with
    | true => rw [eq_of_beq hb]; rfl
    | false => exact ih
theorem relab_lookup (cs outer : Scope) (y : Str) : (relab cs outer).names.lookup y = (cs.names.lookup y).map fun k => if (k == .free && outer.kind == .function && outer.names.lookup y == some .cell) then .cell else k := relab_go outer y cs.names

structure CompFit (cs sc : Scope) (x : Str) : Prop where
  kind : cs.kind = .function
  tgt : cs.names.lookup x = some .local
  loc : ∀ y, (y, NameKind.local) ∈ cs.names → cs.names.lookup y = some .local ∧ y ≠ "talk"
  free : ∀ y, (y, NameKind.free) ∈ cs.names → cs.names.lookup y = some .free ∧ (sc.names.lookup y = some .cell ∨ sc.names.lookup y = some .free)
  nocell : ∀ y ∈ cs.names, y.2 ≠ .cell
theorem compFit {cs sc : Scope} {x : Str} (h : compOk cs sc x = true) : CompFit cs sc x := by
  unfold compOk at h
  rw [Bool.and_eq_true, Bool.and_eq_true, List.all_eq_true] at h
  obtain ⟨⟨h1, h2⟩, h3⟩ := h
  refine ⟨eq_of_beq h1, eq_of_beq h2, fun y hy => ?_, fun y hy => ?_, fun y hy => ?_⟩
  · have := h3 _ hy
    dsimp only at this
    rw [Bool.and_eq_true] at this
    exact ⟨eq_of_beq this.1, by simpa using this.2⟩
  · have := h3 _ hy
    dsimp only at this
    rw [Bool.and_eq_true, Bool.or_eq_true] at this
    exact ⟨eq_of_beq this.1, this.2.elim (fun q => .inl (eq_of_beq q)) fun q => .inr (eq_of_beq q)⟩
  · have := h3 _ hy
    obtain ⟨z, k⟩ := y
    intro q
    dsimp only at q
    subst q
    cases this

/-- what the closure's list says -/
structure ClosOf (env : Env) (cs : Scope) (cl : List (Str × Addr)) : Prop where
  sub : ∀ y a, cl.lookup y = some a → env.cells.lookup y = some a ∧ cs.names.lookup y = some .free ∧ (env.kindOf y = some .cell ∨ env.kindOf y = some .free)
  all : ∀ y, cs.names.lookup y = some .free → cl.lookup y = env.cells.lookup y
theorem clos_of {env : Env} {ρ : Rho} {θ : Th} {h : Heap} (F : Frm env ρ θ h) {cs : Scope} {x : Str} (f : CompFit cs env.scope x) : ∃ cl, closureFor cs env = pure cl ∧ ClosOf env cs cl := by
  obtain ⟨cl, e, h1, h2⟩ := closure_for env cs fun y hy hf => by
    obtain ⟨z, k⟩ := y
    dsimp only at hf; subst hf
    obtain ⟨cell, hc, _⟩ := F.cells z (f.free z hy).2
    exact ⟨cell, hc⟩
  refine ⟨cl, e, fun y a ha => ?_, fun y hy => ?_⟩
  · have := h1 y a (lookup_mem ha)
    exact ⟨this.1, (f.free y this.2).1, (f.free y this.2).2⟩
  · obtain ⟨a, ha⟩ := h2 _ (lookup_mem hy) rfl
    obtain ⟨b, hb⟩ := mem_lookup ha
    rw [hb, (h1 y b (lookup_mem hb)).1]

theorem comp_kind {env : Env} {cs : Scope} {cl : List (Str × Addr)} {L : Addr} (y : Str) : (compEnvC cs cl L env).kindOf y = (cs.names.lookup y).map fun k => if (k == .free && env.scope.kind == .function && env.scope.names.lookup y == some .cell) then .cell else k := relab_lookup cs env.scope y
theorem comp_local {env : Env} {cs : Scope} {cl : List (Str × Addr)} {L : Addr} {y : Str} : (compEnvC cs cl L env).kindOf y = some .local ↔ cs.names.lookup y = some .local := by
  rw [comp_kind]
  cases e : cs.names.lookup y with
  | none => simp
  | some k =>
    simp only [Option.map_some, Option.some.injEq]
    constructor
    · intro h; split at h
      · cases h
      · exact h
    · intro h; subst h; rfl
theorem comp_free {env : Env} {cs : Scope} {cl : List (Str × Addr)} {L : Addr} {y : Str} (hn : ∀ y ∈ cs.names, y.2 ≠ .cell) (h : (compEnvC cs cl L env).kindOf y = some .cell ∨ (compEnvC cs cl L env).kindOf y = some .free) : cs.names.lookup y = some .free := by
  rw [comp_kind] at h
  cases e : cs.names.lookup y with
  | none => rw [e] at h; simp at h
  | some k =>
    rw [e] at h
    simp only [Option.map_some, Option.some.injEq] at h
    rcases h with h | h
    · split at h
      · rename_i hc
        rw [Bool.and_eq_true, Bool.and_eq_true] at hc
        rw [eq_of_beq hc.1.1]
      · subst h; exact absurd rfl (hn _ (lookup_mem e))
    · split at h
      · cases h
      · rw [h]

theorem frm_comp {env : Env} {ρ : Rho} {θ : Th} {h : Heap} (F : Frm env ρ θ h) {cs : Scope} {x : Str} (f : CompFit cs env.scope x) {cl : List (Str × Addr)} (hc : ClosOf env cs cl) {L : Addr} {m : Str → Option Value} {v : V} {val : Value}
    (off : L ∉ muts θ ∧ L ∉ tabs) (hL : ∀ a, own env a → a ≠ L) (hns : h.Ns L m) (hm : m x = some val) (q : RV θ h v val) : Frm (compEnvC cs cl L env) (inner cs ρ x v) θ h := by
  refine ⟨off, ⟨m, hns, fun y u hk hu => ?_⟩, fun y hy => ?_, fun y z a hy hz => ?_⟩
  · unfold inner at hu
    split at hu
    · rename_i hyx; subst hyx; cases hu; exact ⟨val, hm, q⟩
    · rw [comp_local.mp hk] at hu; cases hu
  · have hf := comp_free f.nocell hy
    obtain ⟨_, hfk⟩ := f.free y (lookup_mem hf)
    obtain ⟨cell, h1, h2, h3, h4, vo, h5, h6⟩ := F.cells y hfk
    refine ⟨cell, by rw [show (compEnvC cs cl L env).cells = cl from rfl, hc.all y hf, h1], h2, h3, hL cell (.inr ⟨y, h1, hfk⟩), vo, h5, fun u hu => ?_⟩
    unfold inner at hu
    split at hu
    · rename_i hyx; subst hyx; rw [f.tgt] at hf; cases hf
    · rw [hf] at hu; exact h6 u hu
  · exact F.inj y z a (hc.sub y a hy).1 (hc.sub z a hz).1
theorem env_comp {A : Around} {env : Env} (N : EnvOk c n A env) {cs : Scope} {x : Str} (f : CompFit cs env.scope x) {cl : List (Str × Addr)} (hc : ClosOf env cs cl) {L : Addr} (hb : c.b.get? L = none) : EnvOk c n A (compEnvC cs cl L env) :=
  ⟨f.kind, N.globals, N.builtins, N.hand, N.depth, N.units, ⟨hb, fun y a hy => N.base.2 y a (hc.sub y a hy).1⟩, fun q => absurd rfl (f.loc _ (lookup_mem (comp_local (env := env) (cl := cl) (L := L).mp q))).2⟩
end Mine

end
section
open PySem PySem.W PyProof.Rows
set_option Elab.async false
namespace Mine
variable {c : Cx} {n : Nat} {C : Oracle}

theorem wp_self {A : Around} {θ : Th} {h : Heap} {I : Addr} {it : V} {i : Nat} (q : ItAt θ h I it i) : WP c A (pyIter (.ref I)) h fun v h' => v = .ref I ∧ h' = h := by
  intro tk
  unfold ItAt at q
  split at q
  · obtain ⟨a, vs, m, _, _, _, hit⟩ := q
    exact wpAny_pyIter_tupleiter hit ⟨_, tk, rfl, rfl, rfl⟩
  · obtain ⟨a, vs, m, _, _, _, hit⟩ := q
    exact wpAny_pyIter_listiter hit ⟨_, tk, rfl, rfl, rfl⟩
  · exact wpAny_pyIter_rangeiter q.2.2 ⟨_, tk, rfl, rfl, rfl⟩
  · obtain ⟨p, _, hit⟩ := q
    exact wpAny_pyIter_listiter hit ⟨_, tk, rfl, rfl, rfl⟩
  · exact q.elim
theorem wp_append {A : Around} {σ : St} {θ : Th} {h : Heap} (r : Rep c σ θ h) {i : Nat} {l : List V} {u : V} {D : Addr} {val : Value} (hσ : σ[i]? = some (.list l)) (hp : θ[i]? = some (D, D)) (hl : l.length < 1000) (q : RV θ h u val) :
    WP c A (call (.builtin "list.append") [.ref D, val]) h fun v h' => Stp c (σ.set i (.list (l ++ [u]))) θ θ h h' ∧ v = .none := by
  intro tk
  obtain ⟨_, vs, m, h2, h3, h4⟩ := r.objs i _ _ hσ hp
  have hz := h4.length
  refine wpAny_list_append_plain (items := vs.toArray) ⟨m, h2⟩ (fun h' hpl hs => ?_) (by rw [sizeLine_eq]; simp; omega)
  obtain ⟨m', h2'⟩ := hpl
  have K := r.change hp hs.2
  refine ⟨_, _, rfl, r.upd hσ hp hs.2 ⟨rfl, vs ++ [val], m', by simpa using h2', by unfold lcap; simp; omega, ?_⟩, rfl⟩
  exact RVs.append (RVs.keeps K r.tabD r.mutD _ _ h4) ⟨val, [], rfl, q.keeps K r.tabD r.mutD _ _, rfl⟩

theorem tests_false {A : Around} {env : Env} {h : Heap} : ∀ (ifs : List Expr), WP c A (forIn ifs false fun c r => if r = true then do let ok ← isTrue c env (eval c env); pure (ForInStep.yield ok) else pure (ForInStep.yield r)) h fun ok h' => ok = false ∧ h' = h
  | [] => WP.pure ⟨rfl, rfl⟩
  | x :: r => by
    simp only [List.forIn_cons, Bool.false_eq_true, if_false, pure_bind]
    exact tests_false r
theorem wp_tests : ∀ (ifs : List Expr) (hs : ∀ e ∈ ifs, ST c n C e) (A : Around) (env : Env) (ρ : Rho) (σ : St) (θ : Th) (h : Heap) (b : Bool) (σ' : St), EnvOk c n A env → Inv c env ρ σ θ h → evA C .And ifs env.scope ρ σ = some (b, σ') →
    WP c A (forIn ifs true fun c r => if r = true then do let ok ← isTrue c env (eval c env); pure (ForInStep.yield ok) else pure (ForInStep.yield r)) h fun ok h' => ok = b ∧ ∃ θ', Stp c σ' θ θ' h h'
  | [], _, A, env, ρ, σ, θ, h, b, σ', N, I, e => by
    rw [evA] at e; cases e
    exact WP.pure ⟨rfl, θ, Stp.refl I.rep⟩
  | x :: r, hs, A, env, ρ, σ, θ, h, b, σ', N, I, e => by
    rw [evA] at e
    simp only [List.forIn_cons, if_true, bind_assoc, pure_bind]
    refine WP.bind ?_
    split at e
    · rename_i σ₁ et
      refine (hs x List.mem_cons_self A env ρ σ θ h true σ₁ N I et).mono ?_
      rintro b' h₁ ⟨rfl, θ₁, S₁⟩
      refine (wp_tests r (fun y hy => hs y (List.mem_cons_of_mem _ hy)) A env ρ σ₁ θ₁ h₁ b σ' N (I.step S₁) e).mono ?_
      rintro ok h₂ ⟨rfl, θ₂, S₂⟩
      exact ⟨rfl, θ₂, S₁.trans S₂⟩
    · rename_i σ₁ et
      cases e
      refine (hs x List.mem_cons_self A env ρ σ θ h false _ N I et).mono ?_
      rintro b' h₁ ⟨rfl, θ₁, S₁⟩
      refine (tests_false r).mono ?_
      rintro ok h₂ ⟨rfl, rfl⟩
      exact ⟨rfl, θ₁, S₁⟩
    · cases e

structure CompInv (c : Cx) (env : Env) (ρ : Rho) (θ : Th) (h : Heap) (L I D : Addr) (k : Nat) (it : V) (i : Nat) (σ₁ : St) (θ₁ : Th) (H : Heap) : Prop where
  rep : Rep c σ₁ θ₁ H
  frm : Frm env ρ θ₁ H
  ns : ∃ m, H.Ns L m
  it : ItAt θ₁ H I it i
  offL : L ∉ muts θ₁
  offI : I ∉ muts θ₁
  at_ : θ₁[k]? = some (D, D)
  kp : KpL (fun _ => False) θ θ₁ h H
structure CompSt (c : Cx) (env : Env) (h : Heap) (L I : Addr) : Prop where
  tL : L ∉ tabs
  tI : I ∉ tabs
  bL : c.b.get? L = none
  bI : c.b.get? I = none
  ne : I ≠ L
  oL : ∀ a, own env a → a ≠ L
  oI : ∀ a, own env a → a ≠ I
  nL : h.get? L = none
  nI : h.get? I = none
variable {env : Env} {ρ : Rho} {θ : Th} {h : Heap} {L I D : Addr} {k : Nat} {it : V} {i : Nat} {σ₁ : St} {θ₁ : Th} {H : Heap}
theorem CompInv.step (x : CompInv c env ρ θ h L I D k it i σ₁ θ₁ H) (s : CompSt c env h L I) {σ₂ : St} {θ₂ : Th} {H₂ : Heap} (S : Stp c σ₂ θ₁ θ₂ H H₂) : CompInv c env ρ θ h L I D k it i σ₂ θ₂ H₂ := by
  obtain ⟨m, o, es, ep, g, r⟩ := x.ns
  obtain ⟨oi, gi, _⟩ := x.it.lk
  exact ⟨S.rep, x.frm.keeps S.kp x.rep.tabD x.rep.mutD, ⟨m, o, es, ep, S.kp.keep _ _ x.offL s.tL g, r⟩, x.it.keepsV S.kp.v x.rep.tabD x.rep.mutD (fun o e => S.kp.keep _ _ x.offI s.tI e),
    S.kp.off g x.offL, S.kp.off gi x.offI, S.kp.at x.at_, x.kp.trans (S.l _)⟩
theorem CompInv.next (x : CompInv c env ρ θ h L I D k it i σ₁ θ₁ H) (s : CompSt c env h L I) {H₂ : Heap} (l : Loc c θ₁ H H₂ I) {i' : Nat} (q : ItAt θ₁ H₂ I it i') : CompInv c env ρ θ h L I D k it i' σ₁ θ₁ H₂ := by
  obtain ⟨m, o, es, ep, g, r⟩ := x.ns
  exact ⟨l.rep x.rep, x.frm.keepsV l.kpv x.rep.tabD x.rep.mutD (fun a o ha e => l.ext a o (s.oI a ha) e), ⟨m, o, es, ep, l.ext _ _ s.ne.symm g, r⟩, q, x.offL, x.offI, x.at_, x.kp.change l.ext (.inr s.nI)⟩
theorem ns_lk {a : Addr} {m : Str → Option Value} (x : H.Ns a m) : ∃ o, H.get? a = some o ∧ LK o := by
  obtain ⟨o, es, ep, g, hd, _⟩ := x
  exact ⟨o, g, .inl ⟨_, _, hd⟩⟩
theorem CompInv.store (x : CompInv c env ρ θ h L I D k it i σ₁ θ₁ H) (s : CompSt c env h L I) {H₂ : Heap} (hs : Heap.SameBut L H H₂) {m : Str → Option Value} (hn : H₂.Ns L m) : CompInv c env ρ θ h L I D k it i σ₁ θ₁ H₂ ∧ KpV θ₁ θ₁ H H₂ := by
  obtain ⟨m₀, n₀⟩ := x.ns
  have l : Loc c θ₁ H H₂ L := ⟨hs.extBut, ⟨x.offL, s.tL⟩, s.bL, ns_lk n₀⟩
  exact ⟨⟨l.rep x.rep, x.frm.keepsV l.kpv x.rep.tabD x.rep.mutD (fun a o ha e => l.ext a o (s.oL a ha) e), ⟨m, hn⟩, x.it.keepsV l.kpv x.rep.tabD x.rep.mutD (fun o e => l.ext _ o s.ne e), x.offL, x.offI, x.at_, x.kp.change l.ext (.inr s.nL)⟩, l.kpv⟩
end Mine

end
section
open PySem PySem.W PyProof.Rows
set_option Elab.async false
namespace Mine
variable {c : Cx} {n : Nat} {C : Oracle}

theorem no_fold {x : Expr} {sc : Scope} {ρ : Rho} {σ : St} {v : V × St} (e : evE C x sc ρ σ = some v) (env : Env) (val : Value) : foldedSetIterable x env val = pure val := by
  cases x <;> first | rfl | (cases e; done) | (unfold evE at e; cases e)

/-- the end of a comprehension's loop -/
structure CompEnd (c : Cx) (env : Env) (ρ : Rho) (θ : Th) (h : Heap) (v : V) (σ' : St) (L D : Addr) (θ' : Th) (H : Heap) : Prop where
  rep : Rep c σ' θ' H
  frm : Frm env ρ θ' H
  kp : KpL (fun _ => False) θ θ' h H
  offL : L ∉ muts θ' ∧ L ∉ tabs
  bL : c.b.get? L = none
  oL : ∀ a, own env a → a ≠ L
  nL : h.get? L = none
  ns : ∃ m, H.Ns L m
  rv : RV θ' H v (.ref D)
theorem CompEnd.close {env : Env} {ρ : Rho} {θ : Th} {h : Heap} {v : V} {σ' : St} {L D : Addr} {θ' : Th} {H : Heap} (x : CompEnd c env ρ θ h v σ' L D θ' H) {h' : Heap} (hs : Heap.SameBut L H h') : Inv c env ρ σ' θ' h' ∧ KpL (fun _ => False) θ θ' h h' ∧ RV θ' h' v (.ref D) := by
  obtain ⟨m, n₀⟩ := x.ns
  have l : Loc c θ' H h' L := ⟨hs.extBut, x.offL, x.bL, ns_lk n₀⟩
  exact ⟨⟨l.rep x.rep, x.frm.keepsV l.kpv x.rep.tabD x.rep.mutD fun a o ha e => l.ext a o (x.oL a ha) e⟩, x.kp.change l.ext (.inr x.nL), RV.keepsV l.kpv x.rep.tabD x.rep.mutD _ _ x.rv⟩

/-- where a comprehension's loop stands -/
inductive CmpSt (c : Cx) (env : Env) (ρ : Rho) (θ : Th) (h : Heap) (L Ia D k : Nat) (itv : V) (FF : V → St → Option (Option V × St)) (r : V × St) : Nat → Shared → Prop
  | mk {fuel i : Nat} {σ₂ : St} {θ₂ : Th} {H : Heap} {t : Nat} : loopC FF itv k fuel i σ₂ = some r → CompInv c env ρ θ h L Ia D k itv i σ₂ θ₂ H → CmpSt c env ρ θ h L Ia D k itv FF r fuel ⟨H, c.gens, c.drawn, t, c.os⟩
theorem comp_core {elt iter : Expr} {x : Str} {px : Pos} {ifs : List Expr} {cs : Scope} {pos : Pos} (hit : SE c n C iter) (hif : ∀ e ∈ ifs, ST c n C e) (he : SE c n C elt) {A : Around} {env : Env} {ρ : Rho} {σ : St} {θ : Th} {h : Heap} {v : V} {σ' : St}
    (N : EnvOk c n A env) (I : Inv c env ρ σ θ h) (e : evE C (.ListComp elt [⟨.Name x px, iter, ifs, 0⟩] cs pos) env.scope ρ σ = some (v, σ')) {use : Option (Value → Sem Unit)} {Q : Value → Shared → Prop} {E : Value → Shared → Prop} (tk : Nat)
    (hend : ∀ L D θ' H t, CompEnd c env ρ θ h v σ' L D θ' H → compPost (model c.prog c.w) A E use Q (.ref D) L (.ok .next) ⟨H, c.gens, c.drawn, t, c.os⟩) :
    wpAny (model c.prog c.w) A (comprehension (.ListComp elt [⟨.Name x px, iter, ifs, 0⟩] cs pos) cs env (firstIterPos [⟨.Name x px, iter, ifs, 0⟩] pos) (newList []) (firstAsync [⟨.Name x px, iter, ifs, 0⟩]) (firstIter [⟨.Name x px, iter, ifs, 0⟩] env) use) Q E ⟨h, c.gens, c.drawn, tk, c.os⟩ := by
  rw [evE] at e
  dsimp only [tgt] at e
  rw [if_pos rfl] at e
  dsimp only at e
  split at e
  case isFalse => cases e
  rename_i hok
  have f := compFit hok
  split at e
  case h_2 => cases e
  rename_i itv σ₁ eg
  rw [evG] at eg
  obtain ⟨cl, hcl, hc⟩ := clos_of I.frm f
  refine wpAny_comprehension_free (use := use) rfl (no_fold eg env) hcl f.kind (fun y hy hl => by
    obtain ⟨z, kk⟩ := y
    dsimp only at hl; subst hl
    exact (f.loc z hy).1) ?_
  refine (hit A env ρ σ θ h itv σ₁ N I eg).use ?_
  rintro xv h₁ t₁ ⟨θ₁, S₁, q⟩
  have g0 : ∃ x0, getAt (σ₁ ++ [.list []]) itv 0 = some x0 := by
    unfold lfuel at e
    unfold loopC at e
    cases gg : getAt (σ₁ ++ [.list []]) itv 0 with
    | none => rw [gg] at e; cases e
    | some x0 => exact ⟨x0, rfl⟩
  have g1 : ∃ x0, getAt σ₁ itv 0 = some x0 := by
    obtain ⟨x0, g⟩ := g0
    unfold getAt at g ⊢
    cases itv with
    | obj j =>
      dsimp only at g ⊢
      obtain ⟨p, hp, _⟩ := q
      have hl : j < σ₁.length := by rw [← S₁.rep.len]; exact (List.getElem?_eq_some_iff.mp hp).1
      rw [List.getElem?_append_left hl] at g
      exact ⟨x0, g⟩
    | _ => exact ⟨x0, g⟩
  obtain ⟨x1, g1⟩ := g1
  refine (wp_iter S₁.rep q g1).use ?_
  rintro iv h₂ t₂ ⟨rfl, ⟨io, rfl, _⟩, qi⟩
  refine wpAny_newObj_type (wpAny_newFunctionEnv f.nocell (by intro y hy; simp at hy) (fun h₄ hns₄ hsb₄ => ?_) f.kind)
  dsimp only at hns₄ hsb₄ ⊢
  generalize hH3 : (h₁.push io).push { cls := .type "list", dict := none, data := .seq ([] : List Value).toArray } = H3 at hns₄ hsb₄ ⊢
  have zI : (h₁.push io).objs.size = h₁.objs.size + 1 := Heap.size_push ..
  have zD : H3.objs.size = h₁.objs.size + 2 := by rw [← hH3, Heap.size_push, zI]
  have old₂ : ∀ b o, h₁.get? b = some o → (h₁.push io).get? b = some o := fun b o e => Heap.get?_push_of_some _ e
  have old₃ : ∀ b o, (h₁.push io).get? b = some o → H3.get? b = some o := fun b o e => hH3 ▸ Heap.get?_push_of_some _ e
  have old₄ : ∀ b o, H3.get? b = some o → h₄.get? b = some o := fun b o e => hsb₄.extBut b o (Nat.ne_of_lt (Heap.lt_size e)) (Heap.get?_push_of_some _ e)
  have r₂ := S₁.rep.grow old₂
  have hD : H3.get? (h₁.push io).objs.size = some (lstO [] 0) := hH3 ▸ Heap.get?_push_size _ rfl
  have S₃ : Stp c (σ₁ ++ [.list []]) θ₁ (θ₁ ++ [((h₁.push io).objs.size, (h₁.push io).objs.size)]) (h₁.push io) H3 := r₂.add old₃ (none_size _) ⟨rfl, [], 0, hD, Nat.zero_le _, rfl⟩
  have S₄ := Stp.grow S₃.rep old₄
  have lL : h₁.objs.size ≤ H3.objs.size := by omega
  have lne : h₁.objs.size ≠ H3.objs.size := by omega
  have nI : h₁.get? h₁.objs.size = none := none_size _
  have nL : h₁.get? H3.objs.size = none := Heap.get?_none_of_le (by omega)
  have hh₁ := S₁.dom
  have nn : ∀ a, h₁.get? a = none → h.get? a = none := fun a e => by
    cases e' : h.get? a with
    | none => rfl
    | some o => obtain ⟨o', e''⟩ := hh₁ a o e'; rw [e] at e''; cases e''
  have bb : ∀ a, h₁.get? a = none → c.b.get? a = none := fun a e => by
    cases e' : c.b.get? a with
    | none => rfl
    | some o => have := S₁.rep.stay a o e'; rw [e] at this; cases this
  have oo : ∀ a, own env a → ∀ b, h₁.get? b = none → a ≠ b := fun a ha b hb q => by
    obtain ⟨o, e⟩ := own_at (I.step S₁).frm ha
    rw [q, hb] at e; cases e
  have st : CompSt c env h H3.objs.size h₁.objs.size := ⟨(new_off S₁.rep (a := H3.objs.size) lL).2, (new_off S₁.rep (a := h₁.objs.size) (Nat.le_refl _)).2, bb _ nL, bb _ nI, lne, fun a ha => oo a ha _ nL, fun a ha => oo a ha _ nI, nn _ nL, nn _ nI⟩
  have I₃ := ((I.step S₁).step (Stp.grow S₁.rep old₂)).step (S₃.trans S₄)
  have hI₃ : ∀ o, (h₁.push io).get? h₁.objs.size = some o → h₄.get? h₁.objs.size = some o := fun o e => old₄ _ _ (old₃ _ _ e)
  have offm : ∀ a, h₁.get? a = none → a ≠ (h₁.push io).objs.size → a ∉ muts (θ₁ ++ [((h₁.push io).objs.size, (h₁.push io).objs.size)]) := fun a e hne q => by
    unfold muts at q
    rw [List.map_append, List.mem_append] at q
    rcases q with q | q
    · obtain ⟨o, e', _⟩ := S₁.rep.mutD a q
      rw [e] at e'; cases e'
    · exact hne (List.mem_singleton.mp q)
  have dL : H3.objs.size ≠ (h₁.push io).objs.size := by omega
  have dI : h₁.objs.size ≠ (h₁.push io).objs.size := by omega
  have offL := offm _ nL dL
  have offI := offm _ nI dI
  have inv₀ : CompInv c env ρ θ h H3.objs.size h₁.objs.size (h₁.push io).objs.size σ₁.length itv 0 (σ₁ ++ [.list []]) (θ₁ ++ [((h₁.push io).objs.size, (h₁.push io).objs.size)]) h₄ :=
    ⟨S₄.rep, I₃.frm, ⟨_, hns₄⟩, qi.keepsV (S₃.trans S₄).kp.v r₂.tabD r₂.mutD hI₃, offL, offI, new_at S₁.rep _, (((S₁.trans (Stp.grow S₁.rep old₂)).trans S₃).trans S₄).l _⟩
  generalize h₁.objs.size = Ia at *
  generalize (h₁.push io).objs.size = D at *
  generalize H3.objs.size = L at *
  have N' : EnvOk c n A (compEnvC cs cl L env) := env_comp N f hc st.bL
  obtain ⟨FF, hF⟩ : ∃ FF : V → St → Option (Option V × St), (fun v σ => match evI C [⟨.Name x px, iter, ifs, 0⟩] (relab cs env.scope) (inner cs ρ x v) σ with
            | some (true, σ) => match evE C elt (relab cs env.scope) (inner cs ρ x v) σ with
              | some (u, σ) => some (some u, σ)
              | none => none
            | some (false, σ) => some (none, σ)
            | none => none) = FF := ⟨_, rfl⟩
  have e' : loopC FF itv σ₁.length lfuel 0 (σ₁ ++ [.list []]) = some (v, σ') := by rw [← hF]; exact e
  clear e
  have loop : ∀ tk', codeAny (model c.prog c.w) A (.compLoop (.ListComp elt [⟨.Name x px, iter, ifs, 0⟩] cs pos) 0 (.ref Ia) (.ref D) (compEnvC cs cl L env))
      (compPost (model c.prog c.w) A E use Q (.ref D) L) ⟨h₄, c.gens, c.drawn, tk', c.os⟩ := by
    intro tk'
    refine codeAny_compLoop_tests (fun fuel s' => CmpSt c env ρ θ h L Ia D σ₁.length itv FF (v, σ') fuel s') ?_ lfuel (.mk e' inv₀)
    intro fuel s' hst
    obtain @⟨i, σ₂, θ₂, H, t, ee, inv⟩ := hst
    cases fuel with
    | zero => cases ee
    | succ fuel =>
      unfold loopC at ee
      split at ee
      · cases ee
      · rename_i gg
        cases ee
        refine (wp_next N.hand inv.rep inv.it gg ⟨inv.offI, st.tI⟩ st.bI).use ?_
        rintro rv H₂ t₂ ⟨l, rfl⟩
        obtain ⟨m, o, es, ep, g, rr⟩ := inv.ns
        have n₂ : H₂.Ns L m := ⟨o, es, ep, l.ext _ _ st.ne.symm g, rr⟩
        refine hend L D θ₂ H₂ t₂ ⟨l.rep inv.rep, inv.frm.keepsV l.kpv inv.rep.tabD inv.rep.mutD (fun a o ha e => l.ext a o (st.oI a ha) e), inv.kp.change l.ext (.inr st.nI), ⟨inv.offL, st.tL⟩, st.bL, st.oL, st.nL, ⟨m, n₂⟩, (D, D), inv.at_, rfl⟩
      · rename_i v₁ gg
        refine (wp_next N.hand inv.rep inv.it gg ⟨inv.offI, st.tI⟩ st.bI).use ?_
        rintro rv H₂ t₂ ⟨l, val, rfl, qv, qit⟩
        have inv₂ := inv.next st l qit
        obtain ⟨m₂, n₂⟩ := inv₂.ns
        refine wpAny_assign_Name (wpAny_storeName_local (comp_local.mpr f.tgt) n₂ (fun H₃ hn₃ hs₃ => ?_) (by simp [compEnvC, relabel, f.kind]))
        obtain ⟨inv₃, K₃⟩ := inv₂.store st hs₃ hn₃
        have qv₃ := RV.keepsV K₃ inv₂.rep.tabD inv₂.rep.mutD _ _ qv
        have Iv : Inv c (compEnvC cs cl L env) (inner cs ρ x v₁) σ₂ θ₂ H₃ := ⟨inv₃.rep, frm_comp inv₃.frm f hc ⟨inv₃.offL, st.tL⟩ st.oL hn₃ (if_pos rfl) qv₃⟩
        split at ee
        · rename_i u σ₄ gu
          rw [← hF] at gu; dsimp only at gu
          split at gu
          · rename_i σ₃ gt
            split at gu
            · rename_i u' σ₄' geu
              cases gu
              rw [evI] at gt
              refine (wp_tests ifs hif A _ _ σ₂ θ₂ H₃ true σ₃ N' Iv gt).use ?_
              rintro ok H₄ t₄ ⟨rfl, θ₃, S₅⟩
              rw [if_pos rfl]
              refine (he A _ _ σ₃ θ₃ H₄ u _ N' (Iv.step S₅) geu).use ?_
              rintro vu H₅ t₅ ⟨θ₄, S₆, qu⟩
              have inv₅ := (inv₃.step st S₅).step st S₆
              split at ee
              · rename_i l₀ hl₀
                split at ee
                · rename_i hlen
                  refine (wp_append inv₅.rep hl₀ inv₅.at_ hlen qu).use ?_
                  rintro va H₆ t₆ ⟨S₇, rfl⟩
                  exact ⟨fuel, Nat.lt_succ_self _, .mk ee (inv₅.step st S₇)⟩
                · cases ee
              · cases ee
            · cases gu
          · cases gu
          · cases gu
        · rename_i σ₄ gu
          rw [← hF] at gu; dsimp only at gu
          split at gu
          · split at gu <;> cases gu
          · rename_i σ₃ gt
            cases gu
            rw [evI] at gt
            refine (wp_tests ifs hif A _ _ σ₂ θ₂ H₃ false _ N' Iv gt).use ?_
            rintro ok H₄ t₄ ⟨rfl, θ₃, S₅⟩
            rw [if_neg (by decide)]
            exact ⟨fuel, Nat.lt_succ_self _, .mk ee (inv₃.step st S₅)⟩
          · cases gu
        · cases ee
  refine codeAny_compStart_list (loop _) ((wp_self inv₀.it).use ?_)
  rintro v' h' t' ⟨rfl, rfl⟩
  exact loop _

theorem s_ListComp {elt iter : Expr} {x : Str} {px : Pos} {ifs : List Expr} {cs : Scope} {pos : Pos} (hit : SE c n C iter) (hif : ∀ e ∈ ifs, ST c n C e) (he : SE c n C elt) : SE c n C (.ListComp elt [⟨.Name x px, iter, ifs, 0⟩] cs pos) := by
  intro A env ρ σ θ h v σ' N I e tk
  rw [eval_ListComp]
  refine comp_core hit hif he N I e (use := none) tk fun L D θ' H t x => ?_
  obtain ⟨m, hm⟩ := x.ns
  refine ⟨m, hm, fun h' hs => ⟨h', t, rfl, θ', ⟨(x.close hs).1.rep, (x.close hs).2.1.out fun _ q => q.elim⟩, (x.close hs).2.2⟩⟩
end Mine

end
section
open PySem PySem.W PyProof.Rows
set_option Elab.async false
namespace Mine
variable {c : Cx} {n : Nat} {C : Oracle}

def SW (c : Cx) (n : Nat) (C : Oracle) (t : Expr) : Prop := ∀ (A : Around) (env : Env) (ρ : Rho) (σ : St) (θ : Th) (h : Heap) (v : V) (val : Value) (ρ' : Rho) (σ' : St), EnvOk c n A env → Inv c env ρ σ θ h → RV θ h v val → evW C t v env.scope ρ σ = some (ρ', σ') →
  WP c A (assign t env val) h fun _ h' => ∃ θ', Inv c env ρ' σ' θ' h' ∧ KpL (own env) θ θ' h h'

/-- a name's store changes one object of the activation -/
theorem Inv.loc {env : Env} {ρ : Rho} {σ : St} {θ : Th} {h h' : Heap} {A : Around} (N : EnvOk c n A env) (I : Inv c env ρ σ θ h) {a : Addr} (ha : own env a) (hs : Heap.SameBut a h h') (hd : ∃ o', h'.get? a = some o') : Loc c θ h h' a ∧ KpL (own env) θ θ h h' := by
  obtain ⟨o, g⟩ := own_at I.frm ha
  have off : a ∉ muts θ ∧ a ∉ tabs := by
    rcases ha with rfl | ⟨x, hx, hk⟩
    · exact I.frm.off
    · obtain ⟨cl, h1, h2, h3, _⟩ := I.frm.cells x hk
      rw [hx] at h1; cases h1; exact ⟨h2, h3⟩
  have lk : LK o := by
    rcases ha with rfl | ⟨x, hx, hk⟩
    · obtain ⟨m, n₀, _⟩ := I.frm.ns
      obtain ⟨o', e', l⟩ := ns_lk n₀
      rw [g] at e'; cases e'; exact l
    · obtain ⟨cl, h1, _, _, _, vo, ⟨oc, h5, h6⟩, _⟩ := I.frm.cells x hk
      rw [hx] at h1; cases h1
      rw [g] at h5; cases h5; exact .inr (.inl ⟨_, h6⟩)
  have base : c.b.get? a = none := by
    rcases ha with rfl | ⟨x, hx, hk⟩
    · exact N.base.1
    · exact N.base.2 x a hx
  exact ⟨⟨hs.extBut, off, base, o, g, lk⟩, (KpL.refl _ _ _).change hs.extBut (.inl ⟨ha, hd⟩)⟩

theorem st_local {x : Str} {A : Around} {env : Env} {ρ : Rho} {σ : St} {θ : Th} {h : Heap} {v : V} {val : Value} (N : EnvOk c n A env) (I : Inv c env ρ σ θ h) (q : RV θ h v val) (hk : env.scope.names.lookup x = some .local) :
    WP c A (storeName env x val) h fun _ h' => ∃ θ', Inv c env (ρ.put x v) σ θ' h' ∧ KpL (own env) θ θ' h h' := by
  intro tk
  obtain ⟨m, hm, hv⟩ := I.frm.ns
  refine wpAny_storeName_local hk hm (fun h' hn hs => ?_) (by rw [N.kind]; rfl)
  obtain ⟨o, g, _⟩ := ns_lk hn
  obtain ⟨l, K⟩ := I.loc N (.inl rfl) hs ⟨o, g⟩
  have kv := l.kpv
  refine ⟨h', _, rfl, θ, ⟨l.rep I.rep, ⟨I.frm.off, ⟨_, hn, fun y u hy hu => ?_⟩, fun y hy => ?_, I.frm.inj⟩⟩, K⟩
  · unfold Rho.put at hu
    by_cases hyx : y = x
    · rw [if_pos hyx] at hu; cases hu
      exact ⟨val, by rw [if_pos hyx], RV.keepsV kv I.rep.tabD I.rep.mutD _ _ q⟩
    · rw [if_neg hyx] at hu
      obtain ⟨w, e1, e2⟩ := hv y u hy hu
      exact ⟨w, by rw [if_neg hyx]; exact e1, RV.keepsV kv I.rep.tabD I.rep.mutD _ _ e2⟩
  · obtain ⟨cl, h1, h2, h3, h4, vo, ⟨oc, h5, h6⟩, h7⟩ := I.frm.cells y hy
    refine ⟨cl, h1, h2, h3, h4, vo, ⟨oc, hs.extBut _ _ h4 h5, h6⟩, fun u hu => ?_⟩
    have hyx : y ≠ x := fun q => by
      rw [q] at hy
      rw [show env.kindOf x = some .local from hk] at hy
      rcases hy with hy | hy <;> cases hy
    unfold Rho.put at hu
    rw [if_neg hyx] at hu
    obtain ⟨w, e1, e2⟩ := h7 u hu
    exact ⟨w, e1, RV.keepsV kv I.rep.tabD I.rep.mutD _ _ e2⟩
theorem st_cell {x : Str} {A : Around} {env : Env} {ρ : Rho} {σ : St} {θ : Th} {h : Heap} {v : V} {val : Value} (N : EnvOk c n A env) (I : Inv c env ρ σ θ h) (q : RV θ h v val) (hk : env.scope.names.lookup x = some .cell) :
    WP c A (storeName env x val) h fun _ h' => ∃ θ', Inv c env (ρ.put x v) σ θ' h' ∧ KpL (own env) θ θ' h h' := by
  intro tk
  obtain ⟨a, a1, a2, a3, a4, a5, a6, a7⟩ := I.frm.cells x (.inl hk)
  refine wpAny_storeName_cell N.kind hk a1 a6 fun h' hn hs => ?_
  obtain ⟨o, g, hd⟩ := id hn
  obtain ⟨l, K⟩ := I.loc N (.inr ⟨x, a1, .inl hk⟩) hs ⟨o, g⟩
  have kv := l.kpv
  obtain ⟨m, ⟨om, es, ep, gm, rm⟩, hv⟩ := I.frm.ns
  refine ⟨h', _, rfl, θ, ⟨l.rep I.rep, ⟨I.frm.off, ⟨m, ⟨om, es, ep, hs.extBut _ _ (Ne.symm a4) gm, rm⟩, fun y u hy hu => ?_⟩, fun y hy => ?_, I.frm.inj⟩⟩, K⟩
  · have hyx : y ≠ x := fun q => by
      rw [q, show env.kindOf x = some .cell from hk] at hy; cases hy
    unfold Rho.put at hu
    rw [if_neg hyx] at hu
    obtain ⟨w, e1, e2⟩ := hv y u hy hu
    exact ⟨w, e1, RV.keepsV kv I.rep.tabD I.rep.mutD _ _ e2⟩
  · by_cases hyx : y = x
    · subst hyx
      refine ⟨a, a1, a2, a3, a4, some val, hn, fun u hu => ?_⟩
      unfold Rho.put at hu
      rw [if_pos rfl] at hu; cases hu
      exact ⟨val, rfl, RV.keepsV kv I.rep.tabD I.rep.mutD _ _ q⟩
    · obtain ⟨cl, h1, h2, h3, h4, vo, ⟨oc, h5, h6⟩, h7⟩ := I.frm.cells y hy
      have hca : cl ≠ a := fun q => hyx (I.frm.inj y x a (q ▸ h1) a1)
      refine ⟨cl, h1, h2, h3, h4, vo, ⟨oc, hs.extBut _ _ hca h5, h6⟩, fun u hu => ?_⟩
      unfold Rho.put at hu
      rw [if_neg hyx] at hu
      obtain ⟨w, e1, e2⟩ := h7 u hu
      exact ⟨w, e1, RV.keepsV kv I.rep.tabD I.rep.mutD _ _ e2⟩
theorem w_Name (x : Str) (p : Pos) : SW c n C (.Name x p) := by
  intro A env ρ σ θ h v val ρ' σ' N I q e
  rw [evW] at e
  split at e
  · rename_i hk; cases e; exact fun tk => wpAny_assign_Name (st_local N I q hk tk)
  · rename_i hk; cases e; exact fun tk => wpAny_assign_Name (st_cell N I q hk tk)
  · cases e
end Mine

end
section
open PySem PySem.W PyProof.Rows
set_option Elab.async false
set_option maxRecDepth 100000
namespace Mine
variable {c : Cx} {n : Nat} {C : Oracle}

section
variable {prog : Program} {w : World} {A : Around} {R : Result → Shared → Prop} {s : Shared} {K : Frag}
theorem own_dict {x Cl dx : Addr} {name : Str} {tk : Tok} {v : Value} {es : List DictEntry} {k : Nat} (X : K.In s.heap) (D : s.heap.get? dx = some (dictOf es k))
    (I : PySem.W.InstAt s.heap x (instObj Cl dx) Cl (some (dictOf es k))) (hp : plainOver K Cl = true) (ht : takerIn K Cl name = some none) (hh : (clsIn K Cl).any (·.hasDict) = true)
    (hl : (lookIn name (dictOf es k)).isSome = true) (hz : ∀ hsh key, (putL name hsh key v es).length ≤ 1000)
    (h : ∀ h', Heap.SameBut dx s.heap h' → h'.get? dx = some (dictOf (putL name (PyData.keyHash w.params name) (.str name s.toks) v es) (putN name es k)) → R (.ok (.ret .none)) { s with heap := h', toks := s.toks + 1 }) :
    codeAny (model prog w) A (.call (.builtin "object.__setattr__") ⟨[.ref x, .str name tk, v], []⟩) R s := by
  refine osa_open X I hp ht fun b => ?_
  obtain ⟨cd, hc, hd'⟩ := any_some hh
  have D' : (s.heap.update dx (Obj.putName name (PyData.keyHash w.params name) (.str name s.toks) v)).get? dx = some (dictOf (putL name (PyData.keyHash w.params name) (.str name s.toks) v es) (putN name es k)) := by
    rw [Heap.get?_update_self _ D (by rw [putName_dict]; rfl), putName_dict]
  have hx := I.at_
  refine wpAny_bind (wpAny_pure (wpAny_bind (wpAny_bind (wpAny_loadPart hx (wpAny_bind ((looks_clsIn X hc).here ?_))))))
  rw [hd']
  refine wpAny_pure (a := some dx) (wpAny_bind (wpAny_pure (wpAny_bind ?_)))
  unfold nsSet
  refine wpAny_bind (wpAny_bind (wpAny_askSetting (wpAny_pure (wpAny_bind (wpAny_mkText (wpAny_bind (wpAny_loadPart D ?_)))))))
  unfold lookIn at hl
  dsimp only at hl ⊢
  have cc : (!es.toArray.any (·.key.isStr name) && es.toArray.any (·.refKey)) = false := by
    rw [← Array.any_toList, ← Array.any_toList]
    split at hl
    · rename_i en he
      rw [List.any_eq_true.mpr ⟨en, List.mem_of_find?_eq_some he, List.find?_some he⟩]; rfl
    · split at hl
      · cases hl
      · rename_i z; rw [Bool.not_eq_true] at z; rw [z, Bool.and_false]
  rw [aRefKeyMayBeTheName_at, cc]
  refine wpAny_updatePart D ?_
  refine wpAny_bind (wpAny_lookBehind D' (pastItsLine_dict (by rw [List.size_toArray, sizeLine_eq]; have := hz (PyData.keyHash w.params name) (.str name s.toks); omega)) ?_)
  exact wpAny_pure (h _ (Heap.SameBut.update ..) D')
end
theorem REs.put {θ : Th} {h : Heap} {x : Str} {v : V} {val : Value} {hsh : Int} {t : Tok} (q : RV θ h v val) : ∀ {l : List (Str × V)} {es : List DictEntry}, REs θ h l es → REs θ h (aput l x v) (putL x hsh (.str x t) val es)
  | [], _, e => by rw [show _ = [] from e]; exact ⟨_, [], t, rfl, rfl, q, rfl⟩
  | (y, u) :: l, _, e => by
    obtain ⟨en, r, t', h1, h2, h3, h4⟩ := e
    subst h1
    have hs : en.key.isStr x = (y == x) := by rw [h2]; rfl
    unfold aput putL
    rw [hs]
    by_cases hx : y = x
    · rw [if_pos hx, if_pos (by simp [hx])]
      exact ⟨_, r, t', rfl, h2, q, h4⟩
    · rw [if_neg hx, if_neg (by simp [hx])]
      exact ⟨en, _, t', rfl, h2, h3, REs.put q h4⟩
theorem REs.length {θ : Th} {h : Heap} : ∀ {l : List (Str × V)} {es : List DictEntry}, REs θ h l es → es.length = l.length
  | [], _, e => by rw [show _ = [] from e]; rfl
  | (y, u) :: l, _, e => by
    obtain ⟨en, r, t', h1, h2, h3, h4⟩ := e
    rw [h1, List.length_cons, List.length_cons, REs.length h4]
theorem putL_len (name : Str) (hsh : Int) (key v : Value) : ∀ es : List DictEntry, (putL name hsh key v es).length ≤ es.length + 1
  | [] => Nat.le_refl _
  | e :: r => by
    unfold putL
    split
    · simp
    · have := putL_len name hsh key v r
      simp; omega
theorem wp_setattr (O : CxOk c) {A : Around} {σ : St} {θ : Th} {h : Heap} (r : Rep c σ θ h) {i : Nat} {attrs : List (Str × V)} {p : Addr × Addr} {x : Str} {v : V} {val : Value} (hσ : σ[i]? = some (.inst attrs)) (hp : θ[i]? = some p) (hx : attrOk x = true) (hz : attrs.length < 100) (q : RV θ h v val) :
    WP c A (setAttr (.ref p.1) x val) h fun _ h' => Stp c (σ.set i (.inst (aput attrs x v))) θ θ h h' := by
  intro tk
  obtain ⟨es, m, J, hes, D⟩ := inst_at r hσ hp
  have hX : c.K.In h := fun a o q => r.stay a o (O.X a o q)
  refine set_plain hX J O.k.sa (own_dict (s := ⟨h, c.gens, c.drawn, tk + 1, c.os⟩) hX D J O.k.over (O.k.attr x hx).2 O.k.hasD ?_ ?_ fun h' hs e' => ⟨_, _, rfl, ?_⟩)
  · have g := hes.get (x := x)
    show (getL x es).isSome = true
    revert g
    cases aget attrs x with
    | none => intro g; rw [g]; rfl
    | some u => rintro ⟨w, g, _⟩; rw [g]; rfl
  · intro hsh key
    have := putL_len x hsh key val es
    have := hes.length
    omega
  · have K := r.change hp hs.2
    obtain ⟨h1, _⟩ := r.objs i _ p hσ hp
    refine r.upd hσ hp hs.2 ⟨?_, _, _, e', REs.put (q.keeps K r.tabD r.mutD _ _) (hes.keeps K r.tabD r.mutD _ _)⟩
    refine hs.extBut _ _ (fun z => ?_) h1
    rw [z, D] at h1; cases h1
theorem w_Attribute (O : CxOk c) {o : Expr} {x : Str} {p : Pos} (ho : SE c n C o) : SW c n C (.Attribute o x p) := by
  intro A env ρ σ θ h v val ρ' σ' N I q e tk
  rw [evW] at e
  split at e
  · rename_i i σ₁ eo
    split at e
    · rename_i attrs hσ
      split at e
      · rename_i hc; cases e
        rw [Bool.and_eq_true, decide_eq_true_eq] at hc
        rw [arm_assign_Attribute]
        refine wpAny_bind (wpAny_holding ((ho A env ρ σ θ h _ _ N I eo).use ?_))
        rintro ov h₁ t₁ ⟨θ₁, S₁, pp, hp, rfl⟩
        refine wpAny_bind (wpAny_standAt (wpAny_bind (wpAny_holding ((wp_setattr O S₁.rep hσ hp hc.1 hc.2 (q.step I.rep S₁)).use ?_))))
        rintro _ h₂ t₂ S₂
        have S := S₁.trans S₂
        exact wpAny_release ⟨_, _, rfl, θ₁, I.step S, S.l _⟩
      · cases e
    · cases e
  · cases e
end Mine

end
section
open PySem PySem.W PyProof.Rows
set_option Elab.async false
namespace Mine
variable {c : Cx} {n : Nat} {C : Oracle}

theorem intsV_map : ∀ {l : List V} {ks : List Int}, intsV l = some ks → l = ks.map .int
  | [], ks, e => by unfold intsV at e; cases e; rfl
  | x :: r, ks, e => by
    unfold intsV at e
    split at e
    · rename_i h; cases h
    · rename_i i r' heq
      cases heq
      split at e
      · rename_i e' he; cases e
        rw [intsV_map he]; rfl
      · cases e
    · cases e
theorem own_setItem {prog : Program} {w : World} {A : Around} {E : Value → Shared → Prop} {s : Shared} {l : Addr} {vs : List Value} {m : Nat} {k : Int} {t : Tok} {v : Value} {Q : Unit → Shared → Prop} (ho : s.heap.get? l = some (lstO vs m))
    (h0 : 0 ≤ k) (hfit : k < 2 ^ 63) (hn : k < vs.length)
    (hQ : ∀ h' m', h'.get? l = some (lstO (vs.set k.toNat v) m') → Heap.SameBut l s.heap h' → Q () { s with heap := h' }) :
    wpAny (model prog w) A (setItem (.ref l) (.int k t) v) Q E s := by
  have hl : s.heap.IsList l vs.toArray := ⟨_, ho, rfl, _, rfl⟩
  have hd : (lstO vs m).data = .seq vs.toArray m := rfl
  unfold setItem
  try with_reducible refine wpAny_holding ?_
  first | refine wpAny_bind (wpAny_pure ?_) | skip
  refine wpAny_bind (wpAny_sequenceKey hl.typeIs (by decide) ?_)
  refine wpAny_bind (wpAny_callSpecial?_slot (name := Str.ofString "__setitem__") hl.typeIs slot_list_setitem
    (wpAny_call_entry slot_list_setitem hl.typeIs entry_list_setitem ?_ (args_list_setitem _ _ _)))
  show wpAny _ _ (Builtin.List.listSubscript? (.int k t) >>= _) _ _ s
  refine wpAny_bind (wpAny_listSubscript_int (fitsIndex_of h0 hfit) ?_)
  clear hfit
  obtain ⟨j, rfl⟩ := Int.eq_ofNat_of_zero_le h0
  have hj : j < vs.length := by omega
  have hx' : vs.toArray[j]? = some vs[j] := by simp [hj]
  show wpAny _ _ ((seqItemAt l j >>= fun r => pure (r.map (j, ·))) >>= _) _ _ s
  refine wpAny_bind (wpAny_bind (wpAny_seqItemAt ho hd (wpAny_pure ?_)))
  rw [hx']
  show wpAny _ _ (setSeqItemAt l j v >>= _) _ _ s
  obtain ⟨n', hd'⟩ := Obj.data_mapSeq hd (·.setIfInBounds j v)
  have hfin : ∃ m', (s.heap.update l (Obj.mapSeq (·.setIfInBounds j v))).get? l = some (lstO (vs.set j v) m') := by
    refine ⟨if (vs.toArray.setIfInBounds j v).size == vs.toArray.size then m else m + 1, (Heap.get?_update_self _ ho (Obj.isFreed_of_seq hd')).trans ?_⟩
    have e : Obj.mapSeq (·.setIfInBounds j v) (lstO vs m) = { cls := .type "list", dict := none, data := .seq (vs.toArray.setIfInBounds j v) (if (vs.toArray.setIfInBounds j v).size == vs.toArray.size then m else m + 1), slots := #[] } := rfl
    rw [e, List.setIfInBounds_toArray]
  obtain ⟨m', hfin⟩ := hfin
  refine wpAny_bind (wpAny_setSeqItemAt ho hd ?_)
  first
    | exact wpAny_bind (wpAny_pure (wpAny_pure ⟨.none, rfl, wpAny_pure (hQ _ m' hfin (Heap.SameBut.update ..))⟩))
    | exact wpAny_pure ⟨.none, rfl, wpAny_pure (hQ _ m' hfin (Heap.SameBut.update ..))⟩
theorem w_Subscript {o k : Expr} {p : Pos} (ho : SE c n C o) (hk : SE c n C k) : SW c n C (.Subscript o k p) := by
  intro A env ρ σ θ h v val ρ' σ' N I q e tk
  rw [evW] at e
  split at e
  · rename_i i σ₁ eo
    split at e
    · rename_i kv σ₂ ek
      rw [arm_assign_Subscript]
      refine wpAny_bind (wpAny_holding ((ho A env ρ σ θ h _ _ N I eo).use ?_))
      rintro ov h₁ t₁ ⟨θ₁, S₁, pp, hp, rfl⟩
      refine wpAny_bind (wpAny_holding ((hk A env ρ σ₁ θ₁ h₁ _ _ N (I.step S₁) ek).use ?_))
      rintro kw h₂ t₂ ⟨θ₂, S₂, qk⟩
      have S := S₁.trans S₂
      have hp' := S₂.kp.at hp
      have qv := q.step I.rep S
      refine wpAny_bind (wpAny_standAt (wpAny_bind (wpAny_holding ?_)))
      split at e
      · rename_i es hσ
        split at e
        · rename_i l
          split at e
          · rename_i ks hks
            split at e
            · cases e
            · rename_i hno; cases e
              have hl := intsV_map hks
              subst hl
              obtain ⟨a, vs, m, rfl, g2, g3, g4, g5⟩ := id qk
              obtain ⟨h0, hz, xs, hD, hR⟩ := S.rep.objs i _ pp hσ hp'
              rw [Bool.or_eq_true, not_or] at hno
              have hlen : es.length < 1000 := by simpa using hno.2
              have hfst := hR.fst
              have hnew : atKey xs ks = none := atKey_none_of_get fun j p hj => hno.1 (by
                rw [List.any_eq_true]
                have hm : ks ∈ xs.map (·.1) := List.mem_map.mpr ⟨_, List.mem_of_getElem? hj, rfl⟩
                rw [hfst] at hm
                obtain ⟨y, hy, hyk⟩ := List.mem_map.mp hm
                exact ⟨y, hy, decide_eq_true hyk⟩)
              have hxl := hR.length
              rw [h0]
              refine wpAny_setItem_heap (knd := tupleKind (intKind c.prog c.w)) (by show A.units + 1 < cLine; rw [cl_is]; have := N.units; omega) (key_is (k := ks) qk) hD (fun h' hD' hs => ?_) (by rw [sizeLine_eq]; omega)
              rw [storedH_new hnew] at hD'
              have K := S.rep.change hp' hs.2
              have S₃ : Stp c (σ₂.set i (.dict (es ++ [(ks, v)]))) θ₂ θ₂ h₂ h' := S.rep.upd hσ hp' hs.2 ⟨h0, by unfold lcap; simp; omega, _, hD', (hR.keeps K S.rep.tabD S.rep.mutD _ _).append ⟨a, val, [], rfl, RV.keeps K S.rep.tabD S.rep.mutD _ _ qk, RV.keeps K S.rep.tabD S.rep.mutD _ _ qv, rfl⟩⟩
              have SS := S.trans S₃
              exact wpAny_release ⟨_, _, rfl, θ₂, I.step SS, SS.l _⟩
          · cases e
        · cases e
      · rename_i l hσ
        split at e
        · rename_i j hj
          split at e
          · rename_i hlt; cases e
            obtain ⟨t, rfl⟩ := natOf_rv hj qk
            obtain ⟨h0, vs, m, h2, h4, h5⟩ := S.rep.objs i _ pp hσ hp'
            have hz := h5.length
            rw [h0]
            refine own_setItem h2 (by omega) (by unfold lcap at h4; omega) (by omega) fun h' m' e' hs => ?_
            have K := S.rep.change hp' hs.2
            have S₃ : Stp c (σ₂.set i (.list (l.set j v))) θ₂ θ₂ h₂ h' := S.rep.upd hσ hp' hs.2 ⟨h0, _, m', e', by rw [List.length_set]; exact h4, RVs.set (RV.keeps K S.rep.tabD S.rep.mutD _ _ qv) j (RVs.keeps K S.rep.tabD S.rep.mutD _ _ h5)⟩
            have SS := S.trans S₃
            exact wpAny_release ⟨_, _, rfl, θ₂, I.step SS, SS.l _⟩
          · cases e
        · cases e
      · cases e
    · cases e
  · cases e
end Mine

end
section
open PySem PySem.W PyProof.Rows
set_option Elab.async false
namespace Mine
variable {c : Cx} {n : Nat} {C : Oracle}

theorem own_lk {env : Env} {ρ : Rho} {θ : Th} {h : Heap} (F : Frm env ρ θ h) {a : Addr} (ha : own env a) : ∃ o, h.get? a = some o ∧ LK o := by
  rcases ha with rfl | ⟨x, hx, hk⟩
  · obtain ⟨m, n₀, _⟩ := F.ns
    exact ns_lk n₀
  · obtain ⟨cl, h1, _, _, _, vo, ⟨oc, h5, h6⟩, _⟩ := F.cells x hk
    rw [hx] at h1; cases h1
    exact ⟨oc, h5, .inr (.inl ⟨_, h6⟩)⟩
theorem KpL.v {env : Env} {ρ : Rho} {θ θ' : Th} {h h' : Heap} (F : Frm env ρ θ h) (k : KpL (own env) θ θ' h h') : KpV θ θ' h h' :=
  ⟨k.ext, fun b o h1 h2 n e => k.keep b o h1 h2 (fun q => by
    obtain ⟨o', e', l⟩ := own_lk F q
    rw [e] at e'; cases e'; exact n l) e, k.new⟩

theorem each_plain {sc : Scope} : ∀ {ts : List Expr} {vs : List V} {ρ : Rho} {σ : St} {r : Rho × St} (env : Env), evWs C ts vs sc ρ σ = some r →
    (assignEach ts env).findIdx? (·.1) = none ∧ (assignEach ts env).length = ts.length ∧ (assignEach ts env).map (·.2) = ts.map fun t => assign t env
  | [], _, _, _, _, _, _ => ⟨rfl, rfl, rfl⟩
  | t :: r, vs, ρ, σ, z, env, e => by
    conv at e => lhs; whnf
    split at e
    · split at e
      · rename_i hw
        obtain ⟨h1, h2, h3⟩ := each_plain env e
        have hs : assignEach (t :: r) env = (false, assign t env) :: assignEach r env := by
          cases t <;> first | rfl | (cases hw; done) | (unfold evW at hw; cases hw)
        rw [hs]
        refine ⟨?_, by simp [h2], by simp [h3]⟩
        rw [List.findIdx?_cons, h1]; rfl
      · cases e
    · cases e
theorem w_each : ∀ {ts : List Expr} (hs : ∀ t ∈ ts, SW c n C t) (A : Around) (env : Env) (ρ : Rho) (σ : St) (θ : Th) (h : Heap) (vs : List V) (vals : List Value) (ρ' : Rho) (σ' : St), EnvOk c n A env → Inv c env ρ σ θ h → RVs θ h vs vals → ts.length = vs.length → evWs C ts vs env.scope ρ σ = some (ρ', σ') →
    WP c A (assignInOrder (ts.map fun t => assign t env) vals) h fun _ h' => ∃ θ', Inv c env ρ' σ' θ' h' ∧ KpL (own env) θ θ' h h'
  | [], _, A, env, ρ, σ, θ, h, vs, vals, ρ', σ', N, I, q, hl, e => by
    cases e
    cases vs with
    | nil => rw [show vals = [] from q]; exact fun tk => wpAny_assignInOrder_none ⟨h, tk, rfl, θ, I, KpL.refl _ _ _⟩
    | cons x r => cases hl
  | t :: r, hs, A, env, ρ, σ, θ, h, vs, vals, ρ', σ', N, I, q, hl, e => by
    conv at e => lhs; whnf
    split at e
    · rename_i v s
      split at e
      · rename_i ρ₁ σ₁ hw
        obtain ⟨val, rest, rfl, q1, q2⟩ := q
        intro tk
        refine wpAny_assignInOrder_more ((hs t List.mem_cons_self A env ρ σ θ h v val ρ₁ σ₁ N I q1 hw).use ?_)
        rintro _ h₁ t₁ ⟨θ₁, I₁, K₁⟩
        refine (w_each (fun t' ht => hs t' (List.mem_cons_of_mem _ ht)) A env ρ₁ σ₁ θ₁ h₁ s rest ρ' σ' N I₁ (RVs.keepsV (K₁.v I.frm) I.rep.tabD I.rep.mutD _ _ q2) (by simpa using hl) e).use ?_
        rintro _ h₂ t₂ ⟨θ₂, I₂, K₂⟩
        exact ⟨h₂, t₂, rfl, θ₂, I₂, K₁.trans K₂⟩
      · cases e
    · cases e
theorem w_Tuple {ts : List Expr} {k : Nat} {p : Pos} (hs : ∀ t ∈ ts, SW c n C t) : SW c n C (.Tuple ts k p) := by
  intro A env ρ σ θ h v val ρ' σ' N I q e tk
  conv at e => lhs; whnf
  split at e
  · rename_i vs
    split at e
    · rename_i hl
      obtain ⟨a, ws, m, rfl, h2, h3, h4, h5⟩ := q
      obtain ⟨e1, e2, e3⟩ := each_plain env e
      refine wpAny_assign_Tuple (items := ws.toArray) N.hand ⟨_, h2, rfl, _, rfl⟩ (by rw [e2, hl, List.size_toArray, h5.length]) e1 fun h' hx => ?_
      have S := Stp.grow I.rep (fun b o e => hx b o (Nat.ne_of_lt (Heap.lt_size e)) e)
      rw [e3]
      refine (w_each hs A env ρ σ θ h' vs ws ρ' σ' N (I.step S) (h5.step I.rep S) hl e).use ?_
      rintro _ h₂ t₂ ⟨θ₂, I₂, K₂⟩
      exact ⟨h₂, t₂, rfl, θ₂, I₂, (S.l _).trans K₂⟩
    · cases e
  · cases e

def FO (θ : Th) (h : Heap) : Fl → Flow → Prop
  | .next, f => f = .next
  | .brk, f => f = .brk
  | .ret v, f => ∃ val, f = .ret val ∧ RV θ h v val
def SS (c : Cx) (n : Nat) (C : Oracle) (s : Stmt) : Prop := ∀ (A : Around) (env : Env) (ρ : Rho) (σ : St) (θ : Th) (h : Heap) (f : Fl) (ρ' : Rho) (σ' : St), EnvOk c n A env → Inv c env ρ σ θ h → evS C s env.scope ρ σ = some (f, ρ', σ') →
  WP c A (exec s env) h fun fl h' => ∃ θ', Inv c env ρ' σ' θ' h' ∧ KpL (own env) θ θ' h h' ∧ FO θ' h' f fl
def SB (c : Cx) (n : Nat) (C : Oracle) (b : List Stmt) : Prop := ∀ (A : Around) (env : Env) (ρ : Rho) (σ : St) (θ : Th) (h : Heap) (f : Fl) (ρ' : Rho) (σ' : St), EnvOk c n A env → Inv c env ρ σ θ h → evB C b env.scope ρ σ = some (f, ρ', σ') →
  WP c A (execs b env) h fun fl h' => ∃ θ', Inv c env ρ' σ' θ' h' ∧ KpL (own env) θ θ' h h' ∧ FO θ' h' f fl
theorem b_nil : SB c n C [] := by
  intro A env ρ σ θ h f ρ' σ' N I e tk
  rw [evB] at e; cases e
  exact wpAny_execs_nil ⟨h, tk, rfl, θ, I, KpL.refl _ _ _, rfl⟩
theorem b_cons {s : Stmt} {r : List Stmt} (hs : SS c n C s) (hr : SB c n C r) : SB c n C (s :: r) := by
  intro A env ρ σ θ h f ρ' σ' N I e tk
  rw [evB] at e
  split at e
  · rename_i ρ₁ σ₁ es
    refine wpAny_execs_cons ((hs A env ρ σ θ h .next ρ₁ σ₁ N I es).use ?_)
    rintro fl h₁ t₁ ⟨θ₁, I₁, K₁, rfl⟩
    refine (hr A env ρ₁ σ₁ θ₁ h₁ f ρ' σ' N I₁ e).use ?_
    rintro fl h₂ t₂ ⟨θ₂, I₂, K₂, F⟩
    exact ⟨h₂, t₂, rfl, θ₂, I₂, K₁.trans K₂, F⟩
  · rename_i f₁ ρ₁ σ₁ hne es
    cases e
    refine wpAny_execs_cons ((hs A env ρ σ θ h _ _ _ N I es).use ?_)
    rintro fl h₁ t₁ ⟨θ₁, I₁, K₁, F⟩
    cases f with
    | next => exact (hne rfl).elim
    | brk => rw [show fl = .brk from F]; exact ⟨h₁, t₁, rfl, θ₁, I₁, K₁, rfl⟩
    | ret v =>
      obtain ⟨val, rfl, q⟩ := F
      exact ⟨h₁, t₁, rfl, θ₁, I₁, K₁, val, rfl, q⟩
  · cases e
theorem st_If {t : Expr} {b o : List Stmt} {p : Pos} (ht : ST c n C t) (hb : SB c n C b) (ho : SB c n C o) : SS c n C (.If t b o p) := by
  intro A env ρ σ θ h f ρ' σ' N I e tk
  rw [evS] at e
  split at e
  · rename_i σ₁ et
    refine wpAny_If ((ht A env ρ σ θ h true σ₁ N I et).use ?_)
    rintro b' h₁ t₁ ⟨rfl, θ₁, S₁⟩
    refine (hb A env ρ σ₁ θ₁ h₁ f ρ' σ' N (I.step S₁) e).use ?_
    rintro fl h₂ t₂ ⟨θ₂, I₂, K₂, F⟩
    exact ⟨h₂, t₂, rfl, θ₂, I₂, (S₁.l _).trans K₂, F⟩
  · rename_i σ₁ et
    refine wpAny_If ((ht A env ρ σ θ h false σ₁ N I et).use ?_)
    rintro b' h₁ t₁ ⟨rfl, θ₁, S₁⟩
    refine (ho A env ρ σ₁ θ₁ h₁ f ρ' σ' N (I.step S₁) e).use ?_
    rintro fl h₂ t₂ ⟨θ₂, I₂, K₂, F⟩
    exact ⟨h₂, t₂, rfl, θ₂, I₂, (S₁.l _).trans K₂, F⟩
  · cases e
theorem st_Return {e : Option Expr} {p : Pos} (he : ∀ x, e = some x → SE c n C x) : SS c n C (.Return e p) := by
  intro A env ρ σ θ h f ρ' σ' N I ev tk
  conv at ev => lhs; whnf
  split at ev
  · rename_i x
    split at ev
    · rename_i v σ₁ ex; cases ev
      refine wpAny_Return_some ((he x rfl A env ρ σ θ h v _ N I ex).use ?_)
      rintro val h₁ t₁ ⟨θ₁, S₁, q⟩
      exact ⟨h₁, t₁, rfl, θ₁, I.step S₁, S₁.l _, val, rfl, q⟩
    · cases ev
  · cases ev
theorem st_Break {p : Pos} : SS c n C (.Break p) := by
  intro A env ρ σ θ h f ρ' σ' N I e tk
  rw [evS] at e; cases e
  exact wpAny_Break ⟨h, tk, rfl, θ, I, KpL.refl _ _ _, rfl⟩
theorem not_inter {A : Around} {env : Env} (N : EnvOk c n A env) : interactive env = false := by
  unfold interactive; rw [N.kind]; rfl
theorem st_Expr {x : Expr} {p : Pos} (hx : SE c n C x) : SS c n C (.Expr x p) := by
  intro A env ρ σ θ h f ρ' σ' N I e tk
  have e : (if (match (generalizing := false) x with | .ListComp .. => true | _ => false) = true then none else (match evE C x env.scope ρ σ with | some (_, σ) => some (Fl.next, ρ, σ) | none => none)) = some (f, ρ', σ') := e
  split at e
  · rw [if_pos rfl] at e; cases e
  · rename_i hc
    rw [if_neg (by decide)] at e
    split at e
    · rename_i v σ₁ ex; cases e
      have hsw : swapsWith x none p.line env = pure false := by
        cases x <;> first | rfl | exact (hc _ _ _ _ rfl).elim | (cases ex; done) | (unfold evE at ex; cases ex)
      refine wpAny_Expr_any ((hx A env ρ σ θ h v _ N I ex).use ?_) (not_inter N) hsw
      rintro val h₁ t₁ ⟨θ₁, S₁, q⟩
      exact ⟨h₁, t₁, rfl, θ₁, I.step S₁, S₁.l _, rfl⟩
    · cases e
end Mine

end
section
open PySem PySem.W PyProof.Rows
set_option Elab.async false
namespace Mine
variable {c : Cx} {n : Nat} {C : Oracle}

theorem items_at {it : V} {l : List V} (e : itemsV it = some l) (σ : St) (i : Nat) : getAt σ it i = some l[i]? := by
  unfold itemsV at e
  split at e
  · cases e; rfl
  · cases e; rfl
  · rename_i k; cases e
    unfold getAt
    dsimp only
    congr 1
    by_cases h : i < k
    · rw [if_pos h]; simp [h]
    · rw [if_neg h]; simp [h]
  · cases e
theorem wp_letgo {A : Around} {θ : Th} {h : Heap} {I : Addr} {it : V} {i : Nat} (q : ItAt θ h I it i) (t : Expr) (v : Value) : WP c A (letOwnedTupleGo t (.ref I) v) h fun _ h' => h' = h := by
  intro tk
  have go : ∀ (o : Obj) (T : String) (vs : Array Value), h.get? I = some o → o.cls = .type T → o.data = .fields vs → (["enumerate", "zip", "dict_itemiterator", "dict_reverseitemiterator", "odict_iterator", "itertools.zip_longest", "itertools.pairwise"].contains T) = false →
      wpAny (model c.prog c.w) A (letOwnedTupleGo t (.ref I) v) (fun v s' => ∃ h' n', s' = ⟨h', c.gens, c.drawn, n', c.os⟩ ∧ h' = h) (fun _ _ => False) ⟨h, c.gens, c.drawn, tk, c.os⟩ := by
    intro o T vs e hc hd hT
    unfold letOwnedTupleGo
    split
    all_goals first | exact wpAny_pure ⟨h, tk, rfl, rfl⟩ | skip
    all_goals
      cases v with
      | ref a =>
        refine wpAny_bind (wpAny_load e ?_)
        rw [hc, hd]
        dsimp only
        rw [hT]
        exact wpAny_pure ⟨h, tk, rfl, rfl⟩
      | _ => exact wpAny_pure ⟨h, tk, rfl, rfl⟩
  unfold ItAt at q
  split at q
  · obtain ⟨a, vs, m, _, _, _, o, e, hc, hd⟩ := q
    exact go o _ _ e hc hd (by decide)
  · obtain ⟨a, vs, m, _, _, _, o, e, hc, hd⟩ := q
    exact go o _ _ e hc hd (by decide)
  · exact go _ _ _ q.2.2 rfl rfl (by decide)
  · obtain ⟨p, _, o, e, hc, hd⟩ := q
    exact go o _ _ e hc hd (by decide)
  · exact q.elim
theorem Inv.locI {env : Env} {ρ : Rho} {σ : St} {θ : Th} {h h' : Heap} (I : Inv c env ρ σ θ h) {a : Addr} (l : Loc c θ h h' a) (ho : ∀ b, own env b → b ≠ a) : Inv c env ρ σ θ h' :=
  ⟨l.rep I.rep, I.frm.keepsV l.kpv I.rep.tabD I.rep.mutD fun b o hb e => l.ext b o (ho b hb) e⟩

/-- where a for statement stands -/
inductive ForSt (c : Cx) (env : Env) (FF : V → Rho → St → Option (Fl × Rho × St)) (l : List V) (θ : Th) (h : Heap) (v : V) (Ia : Addr) (r : Fl × Rho × St) : Nat → Shared → Prop
  | mk {i : Nat} {ρ₁ : Rho} {σ₂ : St} {θ₂ : Th} {H : Heap} {t' : Nat} : loopS FF (l.drop i) ρ₁ σ₂ = some r → Inv c env ρ₁ σ₂ θ₂ H → KpL (own env) θ θ₂ h H → ItAt θ₂ H Ia v i → Ia ∉ muts θ₂ → ForSt c env FF l θ h v Ia r ((l.drop i).length + 1) ⟨H, c.gens, c.drawn, t', c.os⟩
theorem st_For {t it : Expr} {b o : List Stmt} {p : Pos} (hit : SE c n C it) (ht : SW c n C t) (hb : SB c n C b) : SS c n C (.For t it b o p) := by
  intro A env ρ σ θ h f ρ' σ' N I e tk
  conv at e => lhs; whnf
  split at e
  case h_2 => cases e
  split at e
  case h_2 => cases e
  rename_i v σ₁ ei
  split at e
  case h_2 => cases e
  rename_i l hl
  refine wpAny_For ((hit A env ρ σ θ h v σ₁ N I ei).use ?_) (no_fold ei env)
  rintro xv h₁ t₁ ⟨θ₁, S₁, q⟩
  have I₁ := I.step S₁
  refine (wp_iter S₁.rep q (items_at hl σ₁ 0)).use ?_
  rintro iv h₂ t₂ ⟨rfl, ⟨io, rfl, _⟩, qi⟩
  have old₂ : ∀ b o, h₁.get? b = some o → (h₁.push io).get? b = some o := fun b o e => Heap.get?_push_of_some _ e
  have S₂ := Stp.grow S₁.rep old₂
  have I₂ := I₁.step S₂
  have nI : h₁.get? h₁.objs.size = none := none_size _
  have oI : ∀ b, own env b → b ≠ h₁.objs.size := fun b hb q => by
    obtain ⟨o, e⟩ := own_at I₁.frm hb
    rw [q, nI] at e; cases e
  have bI : c.b.get? h₁.objs.size = none := by
    cases e' : c.b.get? h₁.objs.size with
    | none => rfl
    | some o => have := S₁.rep.stay _ o e'; rw [nI] at this; cases this
  have offI := new_off S₁.rep (a := h₁.objs.size) (Nat.le_refl _)
  have nI₀ : h.get? h₁.objs.size = none := by
    cases e' : h.get? h₁.objs.size with
    | none => rfl
    | some o => obtain ⟨o', e''⟩ := S₁.dom _ o e'; rw [nI] at e''; cases e''
  have K₂ := (S₁.trans S₂).l (own env)
  generalize h₁.objs.size = Ia at *
  obtain ⟨FF, hF⟩ : ∃ FF : V → Rho → St → Option (Fl × Rho × St), (fun u ρ σ => match evW C t u env.scope ρ σ with
          | some (ρ, σ) => evB C b env.scope ρ σ
          | none => none) = FF := ⟨_, rfl⟩
  have e' : loopS FF l ρ σ₁ = some (f, ρ', σ') := by rw [← hF]; exact e
  clear e
  refine codeAny_forLoop_any (fun k s' => ForSt c env FF l θ h v Ia (f, ρ', σ') k s') ?_ (l.length + 1) (.mk (i := 0) e' I₂ K₂ qi offI.1)
  intro k s' hst
  obtain @⟨i, ρ₁, σ₂, θ₂, H, t', el, Iv, Kv, qv, hm⟩ := hst
  refine (wp_next N.hand Iv.rep qv (items_at hl σ₂ i) ⟨hm, offI.2⟩ bI).use ?_
  rintro rv H₂ t₃ ⟨lc, nx⟩
  have Iv₂ := Iv.locI lc oI
  have Kv₂ := Kv.change lc.ext (.inr nI₀)
  cases hu : l[i]? with
  | none =>
    rw [hu] at nx
    rw [show rv = none from nx]
    have hd : l.drop i = [] := List.drop_eq_nil_of_le (List.getElem?_eq_none_iff.mp hu)
    rw [hd] at el
    unfold loopS at el; cases el
    exact wpAny_execs_nil ⟨H₂, t₃, rfl, θ₂, Iv₂, Kv₂, rfl⟩
  | some u =>
    rw [hu] at nx
    obtain ⟨val, rfl, qu, qi'⟩ := nx
    have hlt := (List.getElem?_eq_some_iff.mp hu).1
    have hd : l.drop i = u :: l.drop (i + 1) := by
      rw [List.drop_eq_getElem_cons hlt, (List.getElem?_eq_some_iff.mp hu).2]
    rw [hd] at el
    unfold loopS at el
    have hFF : FF u ρ₁ σ₂ = (match evW C t u env.scope ρ₁ σ₂ with
          | some (ρ, σ) => evB C b env.scope ρ σ
          | none => none) := by rw [← hF]
    rw [hFF] at el
    refine (wp_letgo qi' t val).use ?_
    rintro _ H₃ t₄ rfl
    cases ew : evW C t u env.scope ρ₁ σ₂ with
    | none => rw [ew] at el; cases el
    | some rs =>
      obtain ⟨ρ₂, σ₃⟩ := rs
      rw [ew] at el
      refine (ht A env ρ₁ σ₂ θ₂ _ u val ρ₂ σ₃ N Iv₂ qu ew).use ?_
      rintro _ H₄ t₅ ⟨θ₃, I₃, K₃⟩
      have keepI {θa θb : Th} {Ha Hb : Heap} {ρa : Rho} {σa : St} (Ic : Inv c env ρa σa θa Ha) (K : KpL (own env) θa θb Ha Hb) (q : ItAt θa Ha Ia v (i + 1)) (hm : Ia ∉ muts θa) : ItAt θb Hb Ia v (i + 1) ∧ Ia ∉ muts θb := by
        obtain ⟨oi, gi, _⟩ := q.lk
        exact ⟨q.keepsV (K.v Ic.frm) Ic.rep.tabD Ic.rep.mutD (fun o e => K.keep _ _ hm offI.2 (fun z => oI _ z rfl) e), (K.v Ic.frm).off gi hm⟩
      obtain ⟨q₃, hm₃⟩ := keepI Iv₂ K₃ qi' hm
      try dsimp only at el
      cases eb : evB C b env.scope ρ₂ σ₃ with
      | none => rw [eb] at el; cases el
      | some z =>
        obtain ⟨fl, ρ₃, σ₄⟩ := z
        rw [eb] at el
        refine (hb A env ρ₂ σ₃ θ₃ H₄ fl ρ₃ σ₄ N I₃ eb).use ?_
        rintro fv H₅ t₆ ⟨θ₄, I₄, K₄, F⟩
        obtain ⟨q₄, hm₄⟩ := keepI I₃ K₄ q₃ hm₃
        have KK := (Kv₂.trans K₃).trans K₄
        cases fl with
        | next =>
          rw [show fv = .next from F]
          exact ⟨(l.drop (i + 1)).length + 1, by rw [hd]; simp, .mk (i := i + 1) el I₄ KK q₄ hm₄⟩
        | brk =>
          rw [show fv = .brk from F]
          cases el
          exact ⟨H₅, t₆, rfl, θ₄, I₄, KK, rfl⟩
        | ret u =>
          obtain ⟨w, rfl, qw⟩ := F
          cases el
          exact ⟨H₅, t₆, rfl, θ₄, I₄, KK, w, rfl, qw⟩
end Mine

end
section
open PySem PySem.W PyProof.Rows
set_option Elab.async false
namespace Mine
variable {c : Cx} {n : Nat} {C : Oracle}

theorem swap_is {A : Around} {env : Env} (N : EnvOk c n A env) {us : List Expr} {k : Nat} {p : Pos} {e : Expr} {r : Option (List Str)} (h : swapS env.scope us e = some r) : swappedStores [.Tuple us k p] e env = pure r := by
  have hb : env.blockKind = .function := by unfold Env.blockKind; rw [N.kind]; rfl
  unfold swapS at h
  unfold swappedStores
  split at h
  · dsimp only
    rw [hb]
    simp only [bne_self_eq_false, Bool.or_false]
    split at h
    · rename_i c1; cases h; exact if_pos c1
    · rename_i c1
      refine (if_neg c1).trans ?_
      split at h
      · rename_i c2; cases h; exact if_pos c2
      · rename_i c2
        refine (if_neg c2).trans ?_
        split at h
        · rename_i c3; cases h; exact if_pos c3
        · rename_i c3
          refine (if_neg c3).trans ?_
          split at h
          · rename_i c4; cases h; exact if_pos c4
          · rename_i c4
            refine (if_neg c4).trans ?_
            split at h
            · cases h
            · rename_i c5; cases h
              exact if_neg c5
  · rename_i hne
    cases h
    cases e <;> first | rfl | exact (hne _ _ _ rfl).elim
theorem swap_local {sc : Scope} {us : List Expr} {e : Expr} {xs : List Str} (h : swapS sc us e = some (some xs)) : ∀ x ∈ xs, sc.names.lookup x = some .local := by
  unfold swapS at h
  split at h
  · split at h
    · cases h
    · split at h
      · cases h
      · split at h
        · cases h
        · split at h
          · cases h
          · split at h
            · cases h
            · cases h
              intro x hx
              obtain ⟨u, hu, hx⟩ := List.mem_filterMap.mp hx
              split at hx
              · split at hx
                · rename_i hc; cases hx
                  rw [Bool.and_eq_true] at hc
                  exact eq_of_beq hc.1
                · cases hx
              · cases hx
  · cases h
end Mine

end
section
open PySem PySem.W PyProof.Rows
set_option Elab.async false
namespace Mine
variable {c : Cx} {n : Nat} {C : Oracle}

theorem tgt_is {gens : List Comprehension} {x : Str} (h : tgt gens = some x) : ∃ px iter ifs, gens = [⟨.Name x px, iter, ifs, 0⟩] := by
  unfold tgt at h
  split at h
  · split at h
    · rename_i h0; cases h; subst h0; exact ⟨_, _, _, rfl⟩
    · cases h
  · cases h

theorem put_all : ∀ {xs : List Str} {vs : List V} {vals : List Value} {A : Around} {env : Env} {ρ ρ' : Rho} {σ : St} {θ : Th} {h : Heap}, EnvOk c n A env → Inv c env ρ σ θ h → RVs θ h vs vals → (∀ x ∈ xs, env.scope.names.lookup x = some .local) → putAll xs vs ρ = some ρ' →
    WP c A (assignInOrder (xs.map fun x => bindName env x) vals) h fun _ h' => ∃ θ', Inv c env ρ' σ θ' h' ∧ KpL (own env) θ θ' h h'
  | [], vs, vals, A, env, ρ, ρ', σ, θ, h, N, I, q, hx, e => by
    cases vs with
    | nil => unfold putAll at e; cases e; rw [show vals = [] from q]; exact fun tk => wpAny_assignInOrder_none ⟨h, tk, rfl, θ, I, KpL.refl _ _ _⟩
    | cons v r => cases e
  | x :: r, vs, vals, A, env, ρ, ρ', σ, θ, h, N, I, q, hx, e => by
    cases vs with
    | nil => cases e
    | cons v s =>
      unfold putAll at e
      obtain ⟨val, rest, rfl, q1, q2⟩ := q
      intro tk
      refine wpAny_assignInOrder_more (wpAny_bindName ((st_local N I q1 (hx x List.mem_cons_self)).use ?_))
      rintro _ h₁ t₁ ⟨θ₁, I₁, K₁⟩
      refine (put_all N I₁ (RVs.keepsV (K₁.v I.frm) I.rep.tabD I.rep.mutD _ _ q2) (fun y hy => hx y (List.mem_cons_of_mem _ hy)) e).use ?_
      rintro _ h₂ t₂ ⟨θ₂, I₂, K₂⟩
      exact ⟨h₂, t₂, rfl, θ₂, I₂, K₁.trans K₂⟩
theorem RVs.reverse {θ : Th} {h : Heap} : ∀ {l : List V} {vs : List Value}, RVs θ h l vs → RVs θ h l.reverse vs.reverse
  | [], _, e => by rw [show _ = [] from e]; rfl
  | _ :: _, _, e => by
    obtain ⟨v, r, h1, h2, h3⟩ := e
    rw [h1, List.reverse_cons, List.reverse_cons]
    exact RVs.append (RVs.reverse h3) ⟨v, [], rfl, h2, rfl⟩

/-- the plain road: one target -/
theorem assign_one {t e : Expr} {p : Pos} {A : Around} {env : Env} {ρ ρ' : Rho} {σ σ₁ σ' : St} {θ : Th} {h : Heap} {v : V} (he : SE c n C e) (ht : SW c n C t) (N : EnvOk c n A env) (I : Inv c env ρ σ θ h) (ev : evE C e env.scope ρ σ = some (v, σ₁)) (ew : evW C t v env.scope ρ σ₁ = some (ρ', σ'))
    (hs : swapsWithSole [t] e p.line env = pure false) (hw : swappedStores [t] e env = pure none) : WP c A (exec (.Assign [t] e p) env) h fun fl h' => ∃ θ', Inv c env ρ' σ' θ' h' ∧ KpL (own env) θ θ' h h' ∧ FO θ' h' .next fl := by
  intro tk
  refine wpAny_Assign_stores ((he A env ρ σ θ h v σ₁ N I ev).use ?_) hs hw
  rintro val h₁ t₁ ⟨θ₁, S₁, q⟩
  have hsn : (assignEach [t] env).map (·.2) = [assign t env] := by
    cases t <;> first | rfl | (cases ew; done) | (unfold evW at ew; cases ew)
  rw [hsn]
  show wpAny _ A (assign t env val) _ _ _
  refine (ht A env ρ σ₁ θ₁ h₁ v val ρ' σ' N (I.step S₁) q ew).use ?_
  rintro _ h₂ t₂ ⟨θ₂, I₂, K₂⟩
  exact ⟨h₂, t₂, rfl, θ₂, I₂, (S₁.l _).trans K₂, rfl⟩
/-- a comprehension's value stored before its names go -/
theorem assign_comp {t elt iter : Expr} {x : Str} {px : Pos} {ifs : List Expr} {cs : Scope} {pos p : Pos} (hit : SE c n C iter) (hif : ∀ e ∈ ifs, ST c n C e) (he : SE c n C elt) (ht : SW c n C t) {A : Around} {env : Env} {ρ ρ' : Rho} {σ σ₁ σ' : St} {θ : Th} {h : Heap} {v : V}
    (N : EnvOk c n A env) (I : Inv c env ρ σ θ h) (ev : evE C (.ListComp elt [⟨.Name x px, iter, ifs, 0⟩] cs pos) env.scope ρ σ = some (v, σ₁)) (ew : evW C t v env.scope ρ σ₁ = some (ρ', σ'))
    (hs : swapsWithSole [t] (.ListComp elt [⟨.Name x px, iter, ifs, 0⟩] cs pos) p.line env = pure true) : WP c A (exec (.Assign [t] (.ListComp elt [⟨.Name x px, iter, ifs, 0⟩] cs pos) p) env) h fun fl h' => ∃ θ', Inv c env ρ' σ' θ' h' ∧ KpL (own env) θ θ' h h' ∧ FO θ' h' .next fl := by
  intro tk
  rw [exec_Assign_arm]
  refine wpAny_bind (wpAny_standAt ?_)
  rw [hs]
  refine wpAny_bind (wpAny_pure ?_)
  rw [if_pos rfl]
  have hsn : (assignEach [t] env).map (·.2) = [assign t env] := by
    cases t <;> first | rfl | (cases ew; done) | (unfold evW at ew; cases ew)
  rw [hsn]
  refine wpAny_bind ?_
  show wpAny _ A (do let _ ← comprehension (.ListComp elt [⟨.Name x px, iter, ifs, 0⟩] cs pos) cs env (firstIterPos [⟨.Name x px, iter, ifs, 0⟩] pos) (newList []) (firstAsync [⟨.Name x px, iter, ifs, 0⟩]) (firstIter [⟨.Name x px, iter, ifs, 0⟩] env) (some fun v => assignAll v [assign t env])) _ _ _
  refine wpAny_bind (comp_core hit hif he N I ev (use := some fun v => assignAll v [assign t env]) tk fun L D θ' H t' z => ?_)
  show wpAny _ A (assign t env (.ref D)) _ _ _
  have Iz : Inv c env ρ σ₁ θ' H := ⟨z.rep, z.frm⟩
  refine (ht A env ρ σ₁ θ' H v (.ref D) ρ' σ' N Iz z.rv ew).use ?_
  rintro _ h₂ t₂ ⟨θ₂, I₂, K₂⟩
  obtain ⟨m, o, es, ep, g, rr⟩ := z.ns
  have n₂ : h₂.Ns L m := ⟨o, es, ep, K₂.keep _ _ z.offL.1 z.offL.2 (fun q => z.oL _ q rfl) g, rr⟩
  refine ⟨m, n₂, fun h' hs' => wpAny_pure (wpAny_pure ?_)⟩
  have l : Loc c θ₂ h₂ h' L := ⟨hs'.extBut, ⟨(K₂.v z.frm).off g z.offL.1, z.offL.2⟩, z.bL, ns_lk n₂⟩
  exact ⟨h', t₂, rfl, θ₂, I₂.locI l z.oL, ((z.kp.weak fun _ q => q.elim).trans K₂).change l.ext (.inr z.nL), rfl⟩
end Mine

end
section
open PySem PySem.W PyProof.Rows
set_option Elab.async false
namespace Mine
variable {c : Cx} {n : Nat} {C : Oracle}

theorem sw_bool {t e : Expr} {line : Nat} {env : Env} {sc : Scope} {ρ : Rho} {σ : St} {r : V × St} (ev : evE C e sc ρ σ = some r) : ∃ b, swapsWithSole [t] e line env = pure b ∧ (b = true → ∃ elt gens cs pos, e = .ListComp elt gens cs pos) := by
  cases e <;> first
    | exact ⟨false, rfl, fun q => by cases q⟩
    | (cases ev; done)
    | (unfold evE at ev; cases ev; done)
    | (cases t <;> first | exact ⟨false, rfl, fun q => by cases q⟩ | exact ⟨_, rfl, fun _ => ⟨_, _, _, _, rfl⟩⟩)
theorem assign_any {t e : Expr} {p : Pos} (he : SE c n C e) (ht : SW c n C t) (hc : ∀ elt gens cs pos, e = .ListComp elt gens cs pos → SE c n C elt ∧ ∀ g ∈ gens, SE c n C g.iter ∧ ∀ t ∈ g.ifs, ST c n C t) {A : Around} {env : Env} {ρ ρ' : Rho} {σ σ₁ σ' : St} {θ : Th} {h : Heap} {v : V}
    (N : EnvOk c n A env) (I : Inv c env ρ σ θ h) (ev : evE C e env.scope ρ σ = some (v, σ₁)) (ew : evW C t v env.scope ρ σ₁ = some (ρ', σ')) (hw : swappedStores [t] e env = pure none) :
    WP c A (exec (.Assign [t] e p) env) h fun fl h' => ∃ θ', Inv c env ρ' σ' θ' h' ∧ KpL (own env) θ θ' h h' ∧ FO θ' h' .next fl := by
  obtain ⟨b, hb, hl⟩ := sw_bool (t := t) (line := p.line) (env := env) ev
  cases b with
  | false => exact assign_one he ht N I ev ew hb hw
  | true =>
    obtain ⟨elt, gens, cs, pos, rfl⟩ := hl rfl
    obtain ⟨h1, h2⟩ := hc _ _ _ _ rfl
    have hg : ∃ x, tgt gens = some x := by
      rw [evE] at ev
      split at ev
      · exact ⟨_, by assumption⟩
      · cases ev
    obtain ⟨x, hx⟩ := hg
    obtain ⟨px, iter, ifs, rfl⟩ := tgt_is hx
    obtain ⟨h3, h4⟩ := h2 _ (List.mem_singleton.mpr rfl)
    exact assign_comp h3 h4 h1 ht N I ev ew hb
theorem st_Assign {ts : List Expr} {e : Expr} {p : Pos} (he : SE c n C e) (hts : ∀ t ∈ ts, SW c n C t) (hc : ∀ elt gens cs pos, e = .ListComp elt gens cs pos → SE c n C elt ∧ ∀ g ∈ gens, SE c n C g.iter ∧ ∀ t ∈ g.ifs, ST c n C t) : SS c n C (.Assign ts e p) := by
  intro A env ρ σ θ h f ρ' σ' N I e0
  conv at e0 => lhs; whnf
  split at e0
  · rename_i us k p'
    have ht := hts _ (List.mem_singleton.mpr rfl)
    split at e0
    · cases e0
    · rename_i xs hsw
      split at e0
      · rename_i vs σ₁ ev
        split at e0
        case isFalse => cases e0
        rename_i hl
        split at e0
        case h_2 => cases e0
        rename_i ρ₁ hp; cases e0
        intro tk
        obtain ⟨b, hb, hlc⟩ := sw_bool (t := .Tuple us k p') (line := p.line) (env := env) ev
        have hbf : b = false := by
          cases b with
          | false => rfl
          | true =>
            obtain ⟨_, _, _, _, rfl⟩ := hlc rfl
            exfalso
            unfold swapS at hsw
            cases hsw
        rw [exec_Assign_arm]
        refine wpAny_bind (wpAny_standAt ?_)
        rw [hb, hbf]
        refine wpAny_bind (wpAny_pure ?_)
        rw [if_neg (by decide)]
        refine wpAny_bind ((he A env ρ σ θ h _ _ N I ev).use ?_)
        rintro val h₁ t₁ ⟨θ₁, S₁, q⟩
        rw [swap_is N hsw]
        refine wpAny_bind (wpAny_pure ?_)
        obtain ⟨a, ws, m, rfl, h2, h3, h4, h5⟩ := q
        have hz : ws.toArray.size = xs.length := by rw [List.size_toArray, h5.length]; exact hl
        unfold assignStores
        refine wpAny_bind (wpAny_rule (wpAny_bind ?_))
        rw [← hz]
        refine wpAny_unpackItems_tuple N.hand ⟨_, h2, rfl, _, rfl⟩ fun h' hx => ?_
        have I₁ := I.step S₁
        have S := Stp.grow I₁.rep (fun b o e => hx b o (Nat.ne_of_lt (Heap.lt_size e)) e)
        refine wpAny_bind ((put_all N (I₁.step S) (h5.step I₁.rep S).reverse (fun x hx => swap_local hsw x (List.mem_reverse.mp hx)) hp).use ?_)
        rintro _ h₂ t₂ ⟨θ₂, I₂, K₂⟩
        exact wpAny_pure ⟨h₂, t₂, rfl, θ₂, I₂, ((S₁.trans S).l _).trans K₂, rfl⟩
      · cases e0
    · rename_i hsw
      split at e0
      · rename_i v σ₁ ev
        split at e0
        · rename_i ρ₁ σ₂ ew; cases e0
          exact assign_any he ht hc N I ev ew (swap_is N hsw)
        · cases e0
      · cases e0
  · rename_i t hnt
    have ht := hts _ (List.mem_singleton.mpr rfl)
    split at e0
    · rename_i v σ₁ ev
      split at e0
      · rename_i ρ₁ σ₂ ew; cases e0
        refine assign_any he ht hc N I ev ew ?_
        cases t <;> first | rfl | exact (hnt _ _ _ rfl).elim | (cases ew; done) | (unfold evW at ew; cases ew)
      · cases e0
    · cases e0
  · cases e0
end Mine

end
section
open PySem PySem.W PyProof.Rows
set_option Elab.async false
namespace Mine
variable {c : Cx} {n : Nat} {C : Oracle}

theorem no_E {e : Expr} (h : ∀ sc ρ σ, evE C e sc ρ σ = none) : SE c n C e := by
  intro A env ρ σ θ hh v σ' N I ev
  rw [h] at ev; cases ev
theorem no_W {e : Expr} (h : ∀ v sc ρ σ, evW C e v sc ρ σ = none) : SW c n C e := by
  intro A env ρ σ θ hh v val ρ' σ' N I q ev
  rw [h] at ev; cases ev
theorem no_S {e : Stmt} (h : ∀ sc ρ σ, evS C e sc ρ σ = none) : SS c n C e := by
  intro A env ρ σ θ hh f ρ' σ' N I ev
  rw [h] at ev; cases ev
/-- what is shown of an expression -/
structure Gd (c : Cx) (n : Nat) (C : Oracle) (e : Expr) : Prop where
  E : SE c n C e
  T : ST c n C e
  sl : ∀ lo hi st p, e = .Slice lo hi st p → SP c n C lo ∧ SP c n C hi
  att : ∀ o x p, e = .Attribute o x p → SE c n C o
theorem gd_val {e : Expr} (E : SE c n C e) (he : ∀ env whole, isTrue e env whole = (do let v ← whole; standAt e.pos; holding [v] (truthy v)))
    (hv : ∀ (sc : Scope) (ρ : Rho) (σ : St) (w : Option (V × St)), evT C e sc ρ σ w = match w with
      | some (v, σ) => match truth v with | some b => some (b, σ) | none => none
      | none => none) (hs : ∀ lo hi st p, e ≠ .Slice lo hi st p) (ha : ∀ o x p, e ≠ .Attribute o x p) : Gd c n C e :=
  ⟨E, t_value E he hv, fun _ _ _ _ q => absurd q (hs _ _ _ _), fun _ _ _ q => absurd q (ha _ _ _)⟩
theorem gd_T {e : Expr} (E : SE c n C e) (T : ST c n C e) (hs : ∀ lo hi st p, e ≠ .Slice lo hi st p) (ha : ∀ o x p, e ≠ .Attribute o x p) : Gd c n C e :=
  ⟨E, T, fun _ _ _ _ q => absurd q (hs _ _ _ _), fun _ _ _ q => absurd q (ha _ _ _)⟩
theorem ses_of : ∀ es : List Expr, (∀ e ∈ es, Gd c n C e) → SEs c n C es
  | [], _ => s_nil
  | x :: r, h => s_cons (h x List.mem_cons_self).E (ses_of r fun e q => h e (List.mem_cons_of_mem _ q))
theorem so_of : ∀ es : List Expr, (∀ e ∈ es, Gd c n C e) → SO c n C es
  | [], _ => s_or_nil
  | x :: r, h => s_or_cons (h x List.mem_cons_self).E (so_of r fun e q => h e (List.mem_cons_of_mem _ q))
theorem sa_of : ∀ es : List Expr, (∀ e ∈ es, Gd c n C e) → SA c n C es
  | [], _ => s_all_nil
  | x :: r, h => s_all_cons (h x List.mem_cons_self).T (sa_of r fun e q => h e (List.mem_cons_of_mem _ q))
theorem sp_of : ∀ o : Option Expr, (∀ e, o = some e → Gd c n C e) → SP c n C o
  | none, _ => s_part_none
  | some x, h => s_part_some (h x rfl).E
theorem gd_comp {elt : Expr} {gens : List Comprehension} {cs : Scope} {pos : Pos} (h1 : Gd c n C elt) (h2 : ∀ g ∈ gens, SE c n C g.iter ∧ ∀ t ∈ g.ifs, ST c n C t) : SE c n C (.ListComp elt gens cs pos) := by
  intro A env ρ σ θ h v σ' N I ev
  have hg : ∃ x, tgt gens = some x := by
    conv at ev => lhs; whnf
    split at ev
    · exact ⟨_, by assumption⟩
    · cases ev
  obtain ⟨x, hx⟩ := hg
  obtain ⟨px, iter, ifs, rfl⟩ := tgt_is hx
  obtain ⟨h3, h4⟩ := h2 _ (List.mem_singleton.mpr rfl)
  exact s_ListComp h3 h4 h1.E A env ρ σ θ h v σ' N I ev
theorem gd_call (O : CxOk c) (Y : SysOk c) (H : SC c n C) {f : Expr} {args : List Expr} {ks : List Keyword} {p : Pos} (h1 : SEs c n C args) (h2 : ∀ o x p, f = .Attribute o x p → SE c n C o) : SE c n C (.Call f args ks p) := by
  cases ks with
  | cons k r => exact no_E fun _ _ _ => rfl
  | nil => cases f with
    | Name x q => exact s_Call_name O Y H h1
    | Attribute o x q => exact s_Call_attr O H (h2 o x q rfl) h1
    | _ => exact no_E fun _ _ _ => rfl
theorem gd_sub {o i : Expr} {p : Pos} (h0 : Gd c n C o) (h1 : Gd c n C i) : SE c n C (.Subscript o i p) := by
  by_cases h : ∃ lo hi st q, i = .Slice lo hi st q
  · obtain ⟨lo, hi, st, q, rfl⟩ := h
    exact s_Slice h0.E (h1.sl lo hi st q rfl).1 (h1.sl lo hi st q rfl).2
  · exact s_Subscript (fun lo hi st q e => h ⟨lo, hi, st, q, e⟩) h0.E h1.E

mutual
theorem gd (O : CxOk c) (Y : SysOk c) (H : SC c n C) : (e : Expr) → Gd c n C e
  | .BoolOp _ vs _ => gd_T (s_BoolOp (so_of vs (gds O Y H vs))) (t_BoolOp (sa_of vs (gds O Y H vs))) (fun _ _ _ _ q => Expr.noConfusion q) (fun _ _ _ q => Expr.noConfusion q)
  | .BinOp l _ r _ => gd_val (s_BinOp (gd O Y H l).E (gd O Y H r).E) (fun _ _ => rfl) (fun _ _ _ _ => rfl) (fun _ _ _ _ q => Expr.noConfusion q) (fun _ _ _ q => Expr.noConfusion q)
  | .UnaryOp .Not x _ => gd_T (s_Not (gd O Y H x).E) (t_Not (gd O Y H x).T) (fun _ _ _ _ q => Expr.noConfusion q) (fun _ _ _ q => Expr.noConfusion q)
  | .UnaryOp .Invert x p => gd_val (s_Not (gd O Y H x).E) (fun _ _ => rfl) (fun _ _ _ _ => rfl) (fun _ _ _ _ q => Expr.noConfusion q) (fun _ _ _ q => Expr.noConfusion q)
  | .UnaryOp .UAdd x p => gd_val (s_Not (gd O Y H x).E) (fun _ _ => rfl) (fun _ _ _ _ => rfl) (fun _ _ _ _ q => Expr.noConfusion q) (fun _ _ _ q => Expr.noConfusion q)
  | .UnaryOp .USub x p => gd_val (s_Not (gd O Y H x).E) (fun _ _ => rfl) (fun _ _ _ _ => rfl) (fun _ _ _ _ q => Expr.noConfusion q) (fun _ _ _ q => Expr.noConfusion q)
  | .Lambda ps b s p => gd_val (s_Lambda O ps b s p) (fun _ _ => rfl) (fun _ _ _ _ => rfl) (fun _ _ _ _ q => Expr.noConfusion q) (fun _ _ _ q => Expr.noConfusion q)
  | .IfExp t b o _ => gd_T (s_IfExp (gd O Y H t).T (gd O Y H b).E (gd O Y H o).E) t_IfExp (fun _ _ _ _ q => Expr.noConfusion q) (fun _ _ _ q => Expr.noConfusion q)
  | .Dict ks vs p => gd_val (s_Dict ks vs p) (fun _ _ => rfl) (fun _ _ _ _ => rfl) (fun _ _ _ _ q => Expr.noConfusion q) (fun _ _ _ q => Expr.noConfusion q)
  | .ListComp elt gens cs pos => gd_val (gd_comp (gd O Y H elt) (gdg O Y H gens)) (fun _ _ => rfl) (fun _ _ _ _ => rfl) (fun _ _ _ _ q => Expr.noConfusion q) (fun _ _ _ q => Expr.noConfusion q)
  | .Compare l _ rs _ => gd_T (s_Compare (gd O Y H l).E fun r q => (gds O Y H rs r q).E) (t_Compare (gd O Y H l).E fun r q => (gds O Y H rs r q).E) (fun _ _ _ _ q => Expr.noConfusion q) (fun _ _ _ q => Expr.noConfusion q)
  | .Call f args ks p => gd_val (gd_call O Y H (ses_of args (gds O Y H args)) (gd O Y H f).att) (fun _ _ => rfl) (fun _ _ _ _ => rfl) (fun _ _ _ _ q => Expr.noConfusion q) (fun _ _ _ q => Expr.noConfusion q)
  | .Constant k j p => gd_val (s_const k j p) (fun _ _ => rfl) (fun _ _ _ _ => rfl) (fun _ _ _ _ q => Expr.noConfusion q) (fun _ _ _ q => Expr.noConfusion q)
  | .Attribute o x p => ⟨s_Attribute O (gd O Y H o).E, t_value (s_Attribute O (gd O Y H o).E) (fun _ _ => rfl) (fun _ _ _ _ => rfl), fun _ _ _ _ q => Expr.noConfusion q, fun o' x' p' q => by cases q; exact (gd O Y H o).E⟩
  | .Subscript o i p => gd_val (gd_sub (gd O Y H o) (gd O Y H i)) (fun _ _ => rfl) (fun _ _ _ _ => rfl) (fun _ _ _ _ q => Expr.noConfusion q) (fun _ _ _ q => Expr.noConfusion q)
  | .Name x p => gd_val (s_name x p O) (fun _ _ => rfl) (fun _ _ _ _ => rfl) (fun _ _ _ _ q => Expr.noConfusion q) (fun _ _ _ q => Expr.noConfusion q)
  | .List es _ => gd_val (s_List (ses_of es (gds O Y H es))) (fun _ _ => rfl) (fun _ _ _ _ => rfl) (fun _ _ _ _ q => Expr.noConfusion q) (fun _ _ _ q => Expr.noConfusion q)
  | .Tuple es _ _ => gd_val (s_Tuple (ses_of es (gds O Y H es))) (fun _ _ => rfl) (fun _ _ _ _ => rfl) (fun _ _ _ _ q => Expr.noConfusion q) (fun _ _ _ q => Expr.noConfusion q)
  | .NamedExpr a b p => gd_val (no_E fun _ _ _ => rfl) (fun _ _ => rfl) (fun _ _ _ _ => rfl) (fun _ _ _ _ q => Expr.noConfusion q) (fun _ _ _ q => Expr.noConfusion q)
  | .Set a b p => gd_val (no_E fun _ _ _ => rfl) (fun _ _ => rfl) (fun _ _ _ _ => rfl) (fun _ _ _ _ q => Expr.noConfusion q) (fun _ _ _ q => Expr.noConfusion q)
  | .SetComp a b d p => gd_val (no_E fun _ _ _ => rfl) (fun _ _ => rfl) (fun _ _ _ _ => rfl) (fun _ _ _ _ q => Expr.noConfusion q) (fun _ _ _ q => Expr.noConfusion q)
  | .DictComp a b d e p => gd_val (no_E fun _ _ _ => rfl) (fun _ _ => rfl) (fun _ _ _ _ => rfl) (fun _ _ _ _ q => Expr.noConfusion q) (fun _ _ _ q => Expr.noConfusion q)
  | .GeneratorExp a b d p => gd_val (no_E fun _ _ _ => rfl) (fun _ _ => rfl) (fun _ _ _ _ => rfl) (fun _ _ _ _ q => Expr.noConfusion q) (fun _ _ _ q => Expr.noConfusion q)
  | .Await a p => gd_val (no_E fun _ _ _ => rfl) (fun _ _ => rfl) (fun _ _ _ _ => rfl) (fun _ _ _ _ q => Expr.noConfusion q) (fun _ _ _ q => Expr.noConfusion q)
  | .Yield a p => gd_val (no_E fun _ _ _ => rfl) (fun _ _ => rfl) (fun _ _ _ _ => rfl) (fun _ _ _ _ q => Expr.noConfusion q) (fun _ _ _ q => Expr.noConfusion q)
  | .YieldFrom a p => gd_val (no_E fun _ _ _ => rfl) (fun _ _ => rfl) (fun _ _ _ _ => rfl) (fun _ _ _ _ q => Expr.noConfusion q) (fun _ _ _ q => Expr.noConfusion q)
  | .FormattedValue a b d p => gd_val (no_E fun _ _ _ => rfl) (fun _ _ => rfl) (fun _ _ _ _ => rfl) (fun _ _ _ _ q => Expr.noConfusion q) (fun _ _ _ q => Expr.noConfusion q)
  | .JoinedStr a p => gd_val (no_E fun _ _ _ => rfl) (fun _ _ => rfl) (fun _ _ _ _ => rfl) (fun _ _ _ _ q => Expr.noConfusion q) (fun _ _ _ q => Expr.noConfusion q)
  | .Starred a p => gd_val (no_E fun _ _ _ => rfl) (fun _ _ => rfl) (fun _ _ _ _ => rfl) (fun _ _ _ _ q => Expr.noConfusion q) (fun _ _ _ q => Expr.noConfusion q)
  | .Slice lo hi st p => ⟨no_E fun _ _ _ => rfl, t_value (no_E fun _ _ _ => rfl) (fun _ _ => rfl) (fun _ _ _ _ => rfl), fun lo' hi' st' p' q => by
    cases q; exact ⟨sp_of lo (gdo O Y H lo), sp_of hi (gdo O Y H hi)⟩, fun _ _ _ q => Expr.noConfusion q⟩
termination_by structural e => e
theorem gdo (O : CxOk c) (Y : SysOk c) (H : SC c n C) : (o : Option Expr) → ∀ e, o = some e → Gd c n C e
  | none => fun _ q => by cases q
  | some x => fun e q => Option.some.inj q ▸ gd O Y H x
termination_by structural o => o
theorem gds (O : CxOk c) (Y : SysOk c) (H : SC c n C) : (es : List Expr) → ∀ e ∈ es, Gd c n C e
  | [] => fun _ q => by cases q
  | x :: r => fun e q => (List.mem_cons.mp q).elim (fun h => h ▸ gd O Y H x) (gds O Y H r e)
termination_by structural es => es
theorem gdg (O : CxOk c) (Y : SysOk c) (H : SC c n C) : (gs : List Comprehension) → ∀ g ∈ gs, SE c n C g.iter ∧ ∀ t ∈ g.ifs, ST c n C t
  | [] => fun _ q => by cases q
  | g :: r => fun e q => (List.mem_cons.mp q).elim (fun h => h ▸ gdc O Y H g) (gdg O Y H r e)
termination_by structural gs => gs
theorem gdc (O : CxOk c) (Y : SysOk c) (H : SC c n C) : (g : Comprehension) → SE c n C g.iter ∧ ∀ t ∈ g.ifs, ST c n C t
  | ⟨_, it, ifs, _⟩ => ⟨(gd O Y H it).E, fun t q => (gds O Y H ifs t q).T⟩
termination_by structural g => g
end
theorem okE (O : CxOk c) (Y : SysOk c) (H : SC c n C) (e : Expr) : SE c n C e := (gd O Y H e).E
theorem okT (O : CxOk c) (Y : SysOk c) (H : SC c n C) (e : Expr) : ST c n C e := (gd O Y H e).T
theorem okGs (O : CxOk c) (Y : SysOk c) (H : SC c n C) (gs : List Comprehension) : ∀ g ∈ gs, SE c n C g.iter ∧ ∀ t ∈ g.ifs, ST c n C t := gdg O Y H gs
end Mine

end
section
open PySem PySem.W PyProof.Rows
set_option Elab.async false
namespace Mine
variable {c : Cx} {n : Nat} {C : Oracle}

theorem okC (O : CxOk c) (Y : SysOk c) (H : SC c n C) (e : Expr) : ∀ elt gens cs pos, e = .ListComp elt gens cs pos → SE c n C elt ∧ ∀ g ∈ gens, SE c n C g.iter ∧ ∀ t ∈ g.ifs, ST c n C t :=
  fun elt gens _ _ _ => ⟨okE O Y H elt, okGs O Y H gens⟩
mutual
theorem okW (O : CxOk c) (Y : SysOk c) (H : SC c n C) : (e : Expr) → SW c n C e
  | .Name x p => w_Name x p
  | .Attribute o _ _ => w_Attribute O (okE O Y H o)
  | .Subscript o k _ => w_Subscript (okE O Y H o) (okE O Y H k)
  | .Tuple ts _ _ => w_Tuple (okWs O Y H ts)
  | .NamedExpr .. => no_W fun _ _ _ _ => rfl
  | .BinOp .. => no_W fun _ _ _ _ => rfl
  | .Lambda .. => no_W fun _ _ _ _ => rfl
  | .Dict .. => no_W fun _ _ _ _ => rfl
  | .Set .. => no_W fun _ _ _ _ => rfl
  | .ListComp .. => no_W fun _ _ _ _ => rfl
  | .SetComp .. => no_W fun _ _ _ _ => rfl
  | .DictComp .. => no_W fun _ _ _ _ => rfl
  | .GeneratorExp .. => no_W fun _ _ _ _ => rfl
  | .Await .. => no_W fun _ _ _ _ => rfl
  | .Yield .. => no_W fun _ _ _ _ => rfl
  | .YieldFrom .. => no_W fun _ _ _ _ => rfl
  | .Call .. => no_W fun _ _ _ _ => rfl
  | .FormattedValue .. => no_W fun _ _ _ _ => rfl
  | .JoinedStr .. => no_W fun _ _ _ _ => rfl
  | .Constant .. => no_W fun _ _ _ _ => rfl
  | .Starred .. => no_W fun _ _ _ _ => rfl
  | .List .. => no_W fun _ _ _ _ => rfl
  | .Slice .. => no_W fun _ _ _ _ => rfl
  | .UnaryOp .. => no_W fun _ _ _ _ => rfl
  | .BoolOp .. => no_W fun _ _ _ _ => rfl
  | .IfExp .. => no_W fun _ _ _ _ => rfl
  | .Compare .. => no_W fun _ _ _ _ => rfl
theorem okWs (O : CxOk c) (Y : SysOk c) (H : SC c n C) : (es : List Expr) → ∀ e ∈ es, SW c n C e
  | [] => fun e h => nomatch h
  | x :: r => fun e h => by
    have h0 := okW O Y H x
    have h1 := okWs O Y H r
    rcases List.mem_cons.mp h with rfl | h
    · exact h0
    · exact h1 e h
end
mutual
theorem okS (O : CxOk c) (Y : SysOk c) (H : SC c n C) : (s : Stmt) → SS c n C s
  | .Assign ts e _ => st_Assign (okE O Y H e) (okWs O Y H ts) (okC O Y H e)
  | .Expr e _ => st_Expr (okE O Y H e)
  | .If t b o _ => st_If (okT O Y H t) (okB O Y H b) (okB O Y H o)
  | .For t it b _ _ => st_For (okE O Y H it) (okW O Y H t) (okB O Y H b)
  | .Return _ _ => st_Return fun x _ => okE O Y H x
  | .Break _ => st_Break
  | .FunctionDef .. => no_S fun _ _ _ => rfl
  | .AsyncFunctionDef .. => no_S fun _ _ _ => rfl
  | .ClassDef .. => no_S fun _ _ _ => rfl
  | .Delete .. => no_S fun _ _ _ => rfl
  | .TypeAlias .. => no_S fun _ _ _ => rfl
  | .AugAssign .. => no_S fun _ _ _ => rfl
  | .AnnAssign .. => no_S fun _ _ _ => rfl
  | .AsyncFor .. => no_S fun _ _ _ => rfl
  | .While .. => no_S fun _ _ _ => rfl
  | .With .. => no_S fun _ _ _ => rfl
  | .AsyncWith .. => no_S fun _ _ _ => rfl
  | .Match .. => no_S fun _ _ _ => rfl
  | .Raise .. => no_S fun _ _ _ => rfl
  | .Try .. => no_S fun _ _ _ => rfl
  | .TryStar .. => no_S fun _ _ _ => rfl
  | .Assert .. => no_S fun _ _ _ => rfl
  | .Import .. => no_S fun _ _ _ => rfl
  | .ImportFrom .. => no_S fun _ _ _ => rfl
  | .Global .. => no_S fun _ _ _ => rfl
  | .Nonlocal .. => no_S fun _ _ _ => rfl
  | .Pass .. => no_S fun _ _ _ => rfl
  | .Continue .. => no_S fun _ _ _ => rfl
theorem okB (O : CxOk c) (Y : SysOk c) (H : SC c n C) : (b : List Stmt) → SB c n C b
  | [] => b_nil
  | s :: r => b_cons (okS O Y H s) (okB O Y H r)
end
end Mine

end
section
open PySem PySem.W PyProof.Rows
set_option Elab.async false
namespace Mine
variable {c : Cx} {n : Nat} {C : Oracle}

/-- what a function's record says -/
structure FnF (c : Cx) (f : Nat) (fd : FuncData) : Prop where
  lk : ∃ o, c.K.lookup f = some o ∧ o.data = .func fd
  co : fd.scope.isCoroutine = false
  gen : fd.scope.isGenerator = false
  kind : fd.scope.kind = .function
  closure : fd.closure = []
  globals : fd.globals = mainGlobals
  builtins : fd.builtins = builtinsNs
  defaults : fd.defaults = .none
  params : ∃ as ds, fd.params = ⟨[], as, none, [], [], none, ds⟩
  nodup : (fd.params.args.map (·.arg)).Nodup
  bound : ∀ x ∈ fd.params.args.map (·.arg), fd.scope.names.lookup x = some .local ∨ fd.scope.names.lookup x = some .cell
  nofree : ∀ y, fd.scope.names.lookup y ≠ some .free
  code : ∃ q o vs t, fd.code = .ref q ∧ c.K.lookup q = some o ∧ o.data = .fields vs ∧ vs[1]? = some (.str fd.qualname t)
  keep : keepIn c.K (.ref f) = true
  lam : fd.scope.names.lookup ("talk" : Str) = some .local → ∃ cd P, fd.code = .ref cd ∧ P ∈ tabs ∧ CodeHd c.b cd P ∧ (fd.qualname ++ ".<locals>.") ++ "<lambda>" = qualT P

theorem bindL_other {k : Str → Option NameKind} {x : Str} : ∀ (bs : List (Str × Value)) (m : Str → Option Value), (∀ y ∈ bs, y.1 ≠ x) → bindL k bs m x = m x
  | [], _, _ => rfl
  | (y, v) :: r, m, h => by
    unfold bindL
    rw [bindL_other r _ fun z hz => h z (List.mem_cons_of_mem _ hz)]
    split
    · exact if_neg fun (q : x = y) => h (y, v) List.mem_cons_self q.symm
    · rfl
theorem bindC_other {k : Str → Option NameKind} {x : Str} : ∀ (bs : List (Str × Value)) (m : Str → Option Value), (∀ y ∈ bs, y.1 ≠ x) → bindC k bs m x = m x
  | [], _, _ => rfl
  | (y, v) :: r, m, h => by
    unfold bindC
    rw [bindC_other r _ fun z hz => h z (List.mem_cons_of_mem _ hz)]
    split
    · rfl
    · exact if_neg fun (q : x = y) => h (y, v) List.mem_cons_self q.symm
theorem zip_ne {x : Str} {r : List Str} {s : List Value} (h : x ∉ r) : ∀ y ∈ r.zip s, y.1 ≠ x := fun y hy q => by
  obtain ⟨a, b⟩ := y
  exact h (q ▸ (List.of_mem_zip hy).1)
theorem bind_at {θ : Th} {h : Heap} {k : Str → Option NameKind} {x : Str} {v : V} : ∀ (ns : List Str) (vs : List V) (vals : List Value) (m : Str → Option Value), ns.Nodup → RVs θ h vs vals → aget (ns.zip vs) x = some v →
    (k x = some .local → ∃ val, bindL k (ns.zip vals) m x = some val ∧ RV θ h v val) ∧ (k x ≠ some .local → ∃ val, bindC k (ns.zip vals) m x = some val ∧ RV θ h v val)
  | [], vs, vals, m, _, _, e => by cases e
  | y :: r, [], vals, m, _, _, e => by cases e
  | y :: r, u :: s, vals, m, nd, q, e => by
    obtain ⟨val, rest, rfl, q1, q2⟩ := q
    obtain ⟨h1, h2⟩ := List.nodup_cons.mp nd
    rw [List.zip_cons_cons] at e ⊢
    unfold aget at e
    by_cases hyx : y = x
    · rw [if_pos hyx] at e; cases e
      subst hyx
      refine ⟨fun hk => ⟨val, ?_, q1⟩, fun hk => ⟨val, ?_, q1⟩⟩
      · unfold bindL
        rw [bindL_other _ _ (zip_ne h1), if_pos hk, if_pos rfl]
      · unfold bindC
        rw [bindC_other _ _ (zip_ne h1), if_neg hk, if_pos rfl]
    · rw [if_neg hyx] at e
      unfold bindL bindC
      exact ⟨fun hk => (bind_at r s rest _ h2 q2 e).1 hk, fun hk => (bind_at r s rest _ h2 q2 e).2 hk⟩
theorem cells_mem {x : Str} : ∀ (names : List (Str × NameKind)) (k : Nat) (acc : List (Str × Addr)), ((x, NameKind.cell) ∈ names ∨ ∃ a, (x, a) ∈ acc) → ∃ a, (x, a) ∈ cellsFrom k names acc
  | [], k, acc, h => by
    rcases h with h | h
    · cases h
    · exact h
  | (y, kd) :: r, k, acc, h => by
    unfold cellsFrom
    split
    · rename_i hk
      refine cells_mem r _ _ ?_
      rcases h with h | ⟨a, h⟩
      · rcases List.mem_cons.mp h with h | h
        · cases h; exact .inr ⟨k, List.mem_cons_self⟩
        · exact .inl h
      · exact .inr ⟨a, List.mem_cons_of_mem _ h⟩
    · rename_i hk
      refine cells_mem r _ _ ?_
      rcases h with h | h
      · rcases List.mem_cons.mp h with h | h
        · cases h; exact absurd rfl hk
        · exact .inl h
      · exact .inr h
theorem cells_at {x : Str} {names : List (Str × NameKind)} (k : Nat) (h : names.lookup x = some .cell) : ∃ a, (cellsFrom k names []).lookup x = some a := by
  obtain ⟨a, ha⟩ := cells_mem names k [] (.inl (lookup_mem h))
  exact mem_lookup ha

theorem call_sound (O : CxOk c) (Y : SysOk c) (H : SC c n C) {f : Nat} {fd : FuncData} {b : List Stmt} (F : FnF c f fd) (hb : fd.body = .stmts b) {vs : List V} {σ σ' : St} {v : V} (hl : fd.params.args.length = vs.length) {fl : Fl} {ρ' : Rho}
    (ev : evB C b fd.scope (binds fd.params.args vs) σ = some (fl, ρ', σ')) (hv : v = match fl with | .ret u => u | _ => .none)
    {A : Around} {θ : Th} {h : Heap} {vals : List Value} (hA : A.handled = none) (hd : A.depth + 5 * (n + 1) + 2 ≤ 500) (hu : A.units + 200 * (n + 1) + 300 ≤ 4000) (r : Rep c σ θ h) (q : RVs θ h vs vals) :
    CW c A f vals h fun val h' => ∃ θ', Stp c σ' θ θ' h h' ∧ RV θ' h' v val := by
  intro tk
  obtain ⟨o, ho, hdt⟩ := F.lk
  obtain ⟨as, ds, hp⟩ := F.params
  have hlk : ∀ a o, c.K.lookup a = some o → h.get? a = some o := fun a o q => r.stay a o (O.X a o q)
  obtain ⟨cq, co, cvs, ct, e1, e2, e3, e4⟩ := F.code
  have ha : fd.params.args = as := by rw [hp]
  have hvl : as.length = vals.length := by rw [← ha, q.length]; exact hl
  have nd := F.nodup
  have bd := F.bound
  rw [ha] at ev nd bd
  refine codeAny_call_cells (by unfold recursionLimit; omega) (hlk _ _ ho) hdt (O.lim.keeps r.stay) ⟨cq, co, cvs, ct, e1, hlk _ _ e2, e3, e4⟩ hb (bind_plain fd hp F.defaults nd hvl) F.closure ?_ ?_ F.co F.gen F.kind
  · intro x hx
    obtain ⟨a, bv⟩ := x
    rcases bd a (List.of_mem_zip hx).1 with h1 | h1
    · exact .inl h1
    · obtain ⟨cl, hc⟩ := cells_at (h.objs.size + 1) h1
      exact .inr ⟨h1, by dsimp only; rw [hc]; rfl⟩
  intro s₁ x
  obtain ⟨h₁, t₁, rfl⟩ := x.toInCall.same
  have hL : h.objs.size = (callEnvC fd h.objs.size f).locals := rfl
  have kp := x.toInCall.keep
  have S := Stp.grow r kp
  have q₁ := q.step r S
  generalize henv : callEnvC fd h.objs.size f = env at *
  have hsc : env.scope = fd.scope := by rw [← henv]; rfl
  have hcs : env.cells = cellsFrom (h.objs.size + 1) fd.scope.names [] := by rw [← henv]; rfl
  have hlo : env.locals = h.objs.size := hL.symm
  have offL := new_off r (Nat.le_refl h.objs.size)
  have cellNew : ∀ y a, env.cells.lookup y = some a → h.objs.size < a := fun y a e => by rw [← hlo]; exact x.above y a (lookup_mem e)
  have hbase : ∀ a, h.objs.size ≤ a → c.b.get? a = none := fun a ha => by
    cases e' : c.b.get? a with
    | none => rfl
    | some o => exact absurd (Heap.lt_size (r.stay a o e')) (Nat.not_lt.mpr ha)
  have Fm : Frm env (binds as vs) θ h₁ := by
    refine ⟨by rw [hlo]; exact offL, ⟨_, x.toInCall.ns, fun y u hy hu => ?_⟩, fun y hy => ?_, fun y z a hy hz => name_of_addr x.apart (lookup_mem hy) (lookup_mem hz)⟩
    · exact (bind_at _ _ _ _ nd q₁ hu).1 hy
    · rcases hy with hy | hy
      · obtain ⟨a, ha'⟩ := cells_at (h.objs.size + 1) (by rw [← hsc]; exact hy : fd.scope.names.lookup y = some .cell)
        rw [← hcs] at ha'
        have hn := cellNew y a ha'
        have off := new_off r (Nat.le_of_lt hn)
        refine ⟨a, ha', off.1, off.2, by rw [hlo]; exact Nat.ne_of_gt hn, _, x.cell y a ha', fun u hu => ?_⟩
        exact (bind_at _ _ _ _ nd q₁ hu).2 (by rw [hy]; exact fun q => by cases q)
      · exact absurd (by rw [← hsc]; exact hy) (F.nofree y)
  have N : EnvOk c n (A.deeper env) env := by
    refine ⟨by rw [hsc]; exact F.kind, by rw [← henv]; exact F.globals, by rw [← henv]; exact F.builtins, hA, ?_, ?_, ⟨by rw [hlo]; exact hbase _ (Nat.le_refl _), fun y a e => hbase _ (Nat.le_of_lt (cellNew y a e))⟩, fun hq => ?_⟩
    · show A.depth + 1 + _ + _ ≤ _; omega
    · show A.units + 3 + _ + _ ≤ _; omega
    · obtain ⟨cd, P, g1, g2, g3, g4⟩ := F.lam (by rw [← hsc]; exact hq)
      exact ⟨cd, P, by rw [← henv]; exact g1, g2, g3, by rw [← henv]; exact g4⟩
  refine (okB O Y H b (A.deeper env) env (binds as vs) σ θ h₁ fl ρ' σ' N ⟨S.rep, Fm⟩ (by rw [hsc]; exact ev)).use ?_
  rintro fv h₂ t₂ ⟨θ₂, I₂, K₂, Fo⟩
  have KK := (S.l (own env)).trans K₂
  have hX : ∀ a, own env a → h.get? a = none := fun a ha => by
    rcases ha with rfl | ⟨y, hy, _⟩
    · rw [hlo]; exact none_size h
    · exact Heap.get?_none_of_le (Nat.le_of_lt (cellNew y a hy))
  refine ⟨_, h₂, t₂, rfl, rfl, θ₂, ⟨I₂.rep, KK.out hX⟩, ?_⟩
  rw [hv]
  cases fl with
  | next => rw [show fv = .next from Fo]; rfl
  | brk => rw [show fv = .brk from Fo]; rfl
  | ret u =>
    obtain ⟨w, rfl, qw⟩ := Fo
    exact qw
/-- the functions that the oracle may tell -/
def FnsOk (c : Cx) : Prop := ∀ f fd, f ∈ fns → fdOf c.K f = some fd → FnF c f fd
theorem calls (O : CxOk c) (Y : SysOk c) (X : FnsOk c) : ∀ n, SC c n (callN c.K n)
  | 0 => by intro f vs σ v σ' e; cases e
  | n + 1 => by
    intro f vs σ v σ' e
    unfold callN at e
    split at e
    case h_2 => cases e
    rename_i fd hfd
    split at e
    case h_2 => cases e
    rename_i b hb
    split at e
    case isFalse => cases e
    rename_i hc
    rw [Bool.and_eq_true, decide_eq_true_eq] at hc
    have F := X f fd (List.contains_iff_mem.mp hc.1) hfd
    refine ⟨F.keep, fun A θ h vals hA hd hu r q => ?_⟩
    split at e
    · rename_i u ρ₁ σ₁ ev; cases e
      exact call_sound O Y (calls O Y X n) F hb hc.2 ev rfl hA hd hu r q
    · rename_i fl ρ₁ σ₁ hne ev; cases e
      exact call_sound O Y (calls O Y X n) F hb hc.2 ev (by cases fl <;> first | rfl | exact (hne _ rfl).elim) hA hd hu r q
    · cases e
end Mine

end
section
open PySem PySem.W PyProof.Rows PySem.Calls
set_option Elab.async false
set_option maxRecDepth 100000
namespace Mine

/-- a dict's entries, as they lie -/
def RawAt (h : Heap) (d : Addr) (es : Array DictEntry) (ep : Nat) : Prop := ∃ o, h.get? d = some o ∧ o.ExactDict ∧ o.data = .dict es ep
theorem RawAt.typeIs {s : Shared} {d : Addr} {es : Array DictEntry} {ep : Nat} (x : RawAt s.heap d es ep) : s.TypeIs (.ref d) "dict" := by
  obtain ⟨o, ho, hx, _⟩ := x
  exact ⟨o, ho, hx.1⟩
theorem RawAt.at {h h' : Heap} {d : Addr} {es : Array DictEntry} {ep : Nat} (x : RawAt h d es ep) (k : ∀ o, h.get? d = some o → h'.get? d = some o) : RawAt h' d es ep := by
  obtain ⟨o, ho, r⟩ := x
  exact ⟨o, k o ho, r⟩
variable {prog : Program} {w : World} {A : Around} {E : Value → Shared → Prop} {s : Shared}

theorem raw_iter {d : Addr} {es : Array DictEntry} {ep : Nat} {Q : Value → Shared → Prop} (hd : (d == sysModules) = false) (hm : RawAt s.heap d es ep)
    (hQ : Q (.ref s.heap.objs.size) { s with heap := s.heap.push { cls := .type "dict_keyiterator", data := .fields #[.ref d, .int 0 0, .int es.size 0, .int ep 0] } }) : wpAny (model prog w) A (pyIter (.ref d)) Q E s := by
  obtain ⟨o, ho, hc, hdat⟩ := id hm
  have hT := hm.typeIs
  refine wpAny_pyIter_slot hT F.slot_dict_iter (wpAny_call_entry F.slot_dict_iter hT F.entry_dict_iter ?_ (F.args_dict_iter_1 _))
  unfold Builtin.«dict.__iter__»
  refine wpAny_bind ?_
  unfold Builtin.Dict.dictSlotNone
  refine wpAny_bind (wpAny_notOrdered_dict hT (wpAny_pure ?_))
  show wpAny _ _ (Builtin.Dict.showsAll d >>= _) _ _ s
  unfold Builtin.Dict.showsAll
  rw [if_neg (by rw [hd]; exact Bool.false_ne_true)]
  refine wpAny_bind (wpAny_pure (wpAny_bind (wpAny_dictEntries ho hdat (wpAny_bind (wpAny_dictEpoch ho hdat ?_)))))
  refine wpAny_bind (wpAny_newObj_type (wpAny_pure ⟨_, rfl, "dict_keyiterator", _, ⟨_, Heap.get?_push_size _ rfl, rfl⟩, F.slot_dict_keyiterator_next.lookup, ?_⟩))
  simpa [rawInt] using hQ

theorem raw_item {it d : Addr} {i ep : Nat} {es : Array DictEntry} {Q : Option Value → Shared → Prop} (hit : s.heap.IsKeyIter it d i es.size ep) (hm : RawAt s.heap d es ep) (hlt : i < es.size)
    (hQ : ∀ h', h'.IsKeyIter it d (i + 1) es.size ep → Heap.SameBut it s.heap h' → Q (some es[i].key) { s with heap := h' }) : wpAny (model prog w) A (pyNext (.ref it)) Q E s := by
  obtain ⟨o, ho, hc, hd⟩ := id hit
  obtain ⟨od, hod, hcd, hdd⟩ := id hm
  unfold pyNext
  refine wpAny_bind (wpAny_attempt (wpAny_callSpecial?_slot (name := Str.ofString "__next__") hit.typeIs F.slot_dict_keyiterator_next
    (wpAny_call_entry F.slot_dict_keyiterator_next hit.typeIs F.entry_dict_keyiterator_next ?_ (F.args_dict_keyiterator_next_1 _))))
  refine wpAny_bind (wpAny_pure (wpAny_bind (wpAny_bind ?_)))
  first | refine wpAny_bind (wpAny_typeNameOfWhole_keyiter hit.typeIs (wpAny_pure ?_)) | refine wpAny_bind (wpAny_typeNameOf_keyiter hit.typeIs (wpAny_pure ?_))
  refine wpAny_bind (wpAny_fieldsOf ho hd ?_)
  have hown : Builtin.Dict_items.ownsTuple "dict_keyiterator" = false := by decide
  simp only [hown, Bool.false_eq_true, if_false]
  show wpAny _ _ (if (Value.ref d == Value.none) = true then _ else _) _ _ s
  rw [if_neg (show ¬ ((Value.ref d == Value.none) = true) from Bool.false_ne_true)]
  refine wpAny_bind (wpAny_pure (wpAny_bind (wpAny_dictEntries hod hdd ?_)))
  rw [if_neg (by simp)]
  refine wpAny_bind (wpAny_pure (wpAny_bind (wpAny_dictEpoch hod hdd ?_)))
  rw [if_neg (by simp)]
  refine wpAny_pure ?_
  simp only [show ¬ ((i : Int) < 0) from by omega, if_false, Int.toNat_natCast, Array.getElem?_eq_getElem hlt]
  refine wpAny_bind ?_
  first | refine wpAny_bind (wpAny_typeNameOfWhole_keyiter hit.typeIs (wpAny_pure ?_)) | refine wpAny_bind (wpAny_typeNameOf_keyiter hit.typeIs (wpAny_pure ?_))
  refine wpAny_bind (wpAny_isOneOf_keyiter hit.typeIs ?_)
  show wpAny _ _ (setField (.ref it) 1 (rawInt ((i : Int) + 1)) >>= _) _ _ s
  refine wpAny_bind (wpAny_setField ho hd (by simp) ?_)
  have hit' : (s.heap.update it (Obj.mapFields (·.setIfInBounds 1 (rawInt ((i : Int) + 1))))).IsKeyIter it d (i + 1) es.size ep :=
    ⟨_, Heap.get?_update_self _ ho (Obj.isFreed_of_fields (Obj.data_mapFields hd _)), (Obj.cls_mapFields ..).trans hc, by rw [Obj.data_mapFields hd]; simp [rawInt]⟩
  refine wpAny_bind (wpAny_holding ?_)
  refine wpAny_bind (wpAny_isOneOf_keyiter (s := { s with heap := s.heap.update it (Obj.mapFields (·.setIfInBounds 1 (rawInt ((i : Int) + 1)))) }) hit'.typeIs ?_)
  show wpAny _ _ (pure es[i].key) _ _ _
  exact wpAny_pure (wpAny_pure ⟨_, rfl, wpAny_pure (hQ _ hit' (Heap.SameBut.update ..))⟩)

theorem raw_end {it d : Addr} {i ep : Nat} {es : Array DictEntry} {Q : Option Value → Shared → Prop} (hh : A.handled = none) (hit : s.heap.IsKeyIter it d i es.size ep) (hm : RawAt s.heap d es ep) (hge : es.size ≤ i)
    (hQ : ∀ h', Heap.ExtBut it s.heap h' → Q none { s with heap := h' }) : wpAny (model prog w) A (pyNext (.ref it)) Q E s := by
  obtain ⟨o, ho, hc, hd⟩ := id hit
  obtain ⟨od, hod, hcd, hdd⟩ := id hm
  unfold pyNext
  refine wpAny_bind (wpAny_attempt (wpAny_callSpecial?_slot (name := Str.ofString "__next__") hit.typeIs F.slot_dict_keyiterator_next
    (wpAny_call_entry F.slot_dict_keyiterator_next hit.typeIs F.entry_dict_keyiterator_next ?_ (F.args_dict_keyiterator_next_1 _))))
  refine wpAny_bind (wpAny_pure (wpAny_bind (wpAny_bind ?_)))
  first | refine wpAny_bind (wpAny_typeNameOfWhole_keyiter hit.typeIs (wpAny_pure ?_)) | refine wpAny_bind (wpAny_typeNameOf_keyiter hit.typeIs (wpAny_pure ?_))
  refine wpAny_bind (wpAny_fieldsOf ho hd ?_)
  have hown : Builtin.Dict_items.ownsTuple "dict_keyiterator" = false := by decide
  simp only [hown, Bool.false_eq_true, if_false]
  show wpAny _ _ (if (Value.ref d == Value.none) = true then _ else _) _ _ s
  rw [if_neg (show ¬ ((Value.ref d == Value.none) = true) from Bool.false_ne_true)]
  refine wpAny_bind (wpAny_pure (wpAny_bind (wpAny_dictEntries hod hdd ?_)))
  rw [if_neg (by simp)]
  refine wpAny_bind (wpAny_pure (wpAny_bind (wpAny_dictEpoch hod hdd ?_)))
  rw [if_neg (by simp)]
  refine wpAny_pure ?_
  simp only [show ¬ ((i : Int) < 0) from by omega, if_false, Int.toNat_natCast, Array.getElem?_eq_none hge]
  refine wpAny_bind ?_
  first | refine wpAny_bind (wpAny_typeNameOfWhole_keyiter hit.typeIs (wpAny_pure ?_)) | refine wpAny_bind (wpAny_typeNameOf_keyiter hit.typeIs (wpAny_pure ?_))
  show wpAny _ _ (setField (.ref it) 0 .none >>= _) _ _ s
  refine wpAny_bind (wpAny_setField ho hd (by simp) ?_)
  show wpAny _ _ (newExc (.type "StopIteration") [] >>= _) _ _ _
  refine wpAny_bind ?_
  simp only [newExc, newTuple]
  refine wpAny_bind (wpAny_newObj_type ?_ (by size_fits))
  refine wpAny_bind (m := firstArgMember _ _) (wpAny_of_eq (a := Value.none) (by first | rfl | (simp only [firstArgMember]; rfl)) ?_)
  refine wpAny_newObj_type ?_ (by size_fits)
  simp only [raiseNew]
  refine wpAny_bind (wpAny_handled ?_)
  rw [show A.in1.handled = none from hh]
  refine wpAny_bind (wpAny_pure (wpAny_throw ?_))
  refine wpAny_bind (wpAny_isInstance (T := "StopIteration") (b := true) ⟨_, Heap.get?_push_size _ rfl, rfl⟩ isSubtype_stop ?_)
  exact wpAny_pure (hQ _ (((Heap.SameBut.update ..).extBut.push _).push _))
theorem raw_walks (hh : A.handled = none) (I d : Addr) (hne : d ≠ I) (es : Array DictEntry) (ep : Nat) :
    Walks prog w A I [I, d] [I] es.size (fun i v => ∃ e, es[i]? = some e ∧ v = e.key) (fun i h => h.IsKeyIter I d i es.size ep ∧ RawAt h d es ep) where
  sub := fun b hb => by simp at hb; simp [hb]
  frame := fun _ _ _ st hk => ⟨st.1.at fun o e => hk I (by simp) o e, st.2.at fun o e => hk d (by simp) o e⟩
  item := fun i s Q E hi st hQ => raw_item st.1 st.2 hi fun h' hit' hs' =>
    hQ _ h' s.toks ⟨es[i], by simp [hi], rfl⟩ ⟨hit', st.2.at fun o e => hs'.extBut d o hne e⟩ fun b o hb e => hs'.extBut b o (fun h => hb (by simp [h])) e
  done := fun s Q E st hQ => raw_end hh st.1 st.2 (Nat.le_refl _) fun h' he' => hQ h' s.toks fun b o hb e => he' b o (fun h => hb (by simp [h])) e
  self := fun _ _ _ _ st hQ => wpAny_pyIter_keyiter st.1 hQ
theorem raw_src {d : Addr} {es : Array DictEntry} {ep : Nat} (lo : (d == sysModules) = false) : KdlSrc prog w "dict" d d es.size (fun i v => ∃ e, es[i]? = some e ∧ v = e.key) (fun h => RawAt h d es ep) where
  type := fun _ hm => hm.typeIs
  there := fun _ hm => ⟨let ⟨_, ho, _⟩ := hm; Heap.lt_size ho, let ⟨_, ho, _⟩ := hm; Heap.lt_size ho⟩
  keep := fun _ _ hm hk => hm.at fun o e => hk d (.inl rfl) o e
  notList := by decide
  notTuple := by decide
  hint := fun _ _ _ _ hm hq => kdl_hint_dict hm.typeIs hq
  iter := fun _ s hh hm => ⟨_, _, (fun _ _ hq => raw_iter lo hm hq), raw_walks hh _ d (Nat.ne_of_lt (let ⟨_, ho, _⟩ := hm; Heap.lt_size ho)) es ep, ⟨⟨_, Heap.get?_push_size _ rfl, rfl, rfl⟩, hm.at fun o e => Heap.get?_push_of_some _ e⟩⟩
end Mine

end
section
open PySem PySem.W PyProof.Rows PySem.Calls
set_option Elab.async false
set_option maxRecDepth 100000
namespace Mine

def runT {α : Type} (n : Nat) (f : Nat → Nat → Bool) : KasT α → Option α
  | .ret a => some a
  | .ask i j k => if i < n ∧ j < n then runT n f (k (f i j)) else none
theorem run_wp {α : Type} {cmp : Nat → Nat → (Bool → Shared → Prop) → Shared → Prop} {s : Shared} {f : Nat → Nat → Bool} {n : Nat} (h : ∀ i j C, i < n → j < n → C (f i j) s → cmp i j C s) : ∀ (t : KasT α) (a : α) (G : α → Shared → Prop), runT n f t = some a → G a s → t.kasWp cmp G s
  | .ret a, b, G, e, g => by cases e; exact g
  | .ask i j k, b, G, e, g => by
    unfold runT at e
    split at e
    · rename_i hc
      exact h i j _ hc.1 hc.2 (run_wp h (k (f i j)) b G e g)
    · cases e
theorem run2 : runT 2 (fun i j => decide (i < j)) (kas_sort 2) = some (List.toArray (List.range 2)) := by decide +kernel
theorem run3 : runT 3 (fun i j => decide (i < j)) (kas_sort 3) = some (List.toArray (List.range 3)) := by decide +kernel
theorem run4 : runT 4 (fun i j => decide (i < j)) (kas_sort 4) = some (List.toArray (List.range 4)) := by decide +kernel
theorem run5 : runT 5 (fun i j => decide (i < j)) (kas_sort 5) = some (List.toArray (List.range 5)) := by decide +kernel
theorem run6 : runT 6 (fun i j => decide (i < j)) (kas_sort 6) = some (List.toArray (List.range 6)) := by decide +kernel
theorem run_at {n : Nat} (h2 : 2 ≤ n) (h6 : n ≤ 6) : runT n (fun i j => decide (i < j)) (kas_sort n) = some (List.toArray (List.range n)) := by
  have : n = 2 ∨ n = 3 ∨ n = 4 ∨ n = 5 ∨ n = 6 := by omega
  rcases this with rfl | rfl | rfl | rfl | rfl
  · exact run2
  · exact run3
  · exact run4
  · exact run5
  · exact run6

section
variable {prog : Program} {w : World} {A : Around} {E : Value → Shared → Prop} {s : Shared}
theorem lex_ints {θ : Th} {h : Heap} {b fin : Bool} {Q : Bool → Shared → Prop} : ∀ (k k' : List Int) (xs ys : List Value) (i : Nat), RVs θ h (k.map .int) xs → RVs θ h (k'.map .int) ys → fin = decide (k.length < k'.length) → Q (lexlt k k') s → KatLex prog w A b fin Q (xs.zip ys) i s
  | [], [], xs, ys, i, qx, qy, hf, q => by
    rw [show xs = [] from qx]
    subst hf; exact q
  | [], _ :: _, xs, ys, i, qx, qy, hf, q => by
    rw [show xs = [] from qx]
    subst hf
    simp only [List.length_nil, List.length_cons, Nat.zero_lt_succ, decide_true]
    exact q
  | a :: k, [], xs, ys, i, qx, qy, hf, q => by
    rw [show ys = [] from qy, List.zip_nil_right]
    subst hf
    exact q
  | a :: k, c :: k', xs, ys, i, qx, qy, hf, q => by
    obtain ⟨_, xr, rfl, ⟨t, rfl⟩, qx'⟩ := qx
    obtain ⟨_, yr, rfl, ⟨u, rfl⟩, qy'⟩ := qy
    rw [List.zip_cons_cons]
    refine kat_cons (wpAny_eqBool_int ?_)
    unfold lexlt at q
    by_cases hac : a = c
    · subst hac
      rw [beq_self_eq_true]
      rw [if_neg (Int.lt_irrefl a), if_pos rfl] at q
      exact kat_yes (lex_ints k k' xr yr (i + 1) qx' qy' (by simpa using hf) q)
    · rw [beq_eq_false_iff_ne.mpr hac]
      have q' : Q (decide (a < c)) s := by
        by_cases hl : a < c
        · rw [if_pos hl] at q; rw [decide_eq_true hl]; exact q
        · rw [if_neg hl, if_neg hac] at q; rw [decide_eq_false hl]; exact q
      refine kat_no ?_
      cases hb : (b && i == 0) with
      | true => exact oneLt_int q'
      | false => exact kat_one _ _ (lt_int q')
theorem own_sort {a : Addr} {vs : List Value} {n : Nat} {P : PySem.Fin → Shared → Prop} (ho : s.heap.get? a = some (seqObj "list" vs.toArray n)) (h6 : vs.length ≤ 6)
    (hk : 2 ≤ vs.length → ∀ h', (∀ b o, b ≠ a → s.heap.get? b = some o → h'.get? b = some o) → ∃ κ, (∀ (Q : SortKind → Shared → Prop), Q κ { s with heap := h' } → wpAny (model prog w) A (keyKind' vs.toArray) Q (fun _ _ => False) { s with heap := h' }) ∧
      ∀ i j (C : Bool → Shared → Prop), i < vs.length → j < vs.length → C (decide (i < j)) { s with heap := h' } → kas_ask prog w A κ vs i j C { s with heap := h' })
    (h : ∀ h' e, h'.get? a = some (seqObj "list" vs.toArray e) → (∀ b o, b ≠ a → s.heap.get? b = some o → h'.get? b = some o) → P (.done (.ret .none)) { s with heap := h' }) :
    wpAny (model prog w) A (Builtin.«list.sort» ⟨[.ref a], []⟩) P E s := by
  have ha : a < s.heap.objs.size := Heap.lt_size ho
  have s1 := Heap.SameBut.update s.heap a (Obj.mapSeq fun _ => (#[] : Array Value))
  obtain ⟨e1, ho1⟩ : ∃ e1, (s.heap.update a (Obj.mapSeq fun _ => (#[] : Array Value))).get? a = some (seqObj "list" #[] e1) := ⟨_, get?_update_seq ho fun _ => #[]⟩
  rw [list_sort_plain]
  refine wpAny_bind (listItems_at ho rfl ?_)
  refine wpAny_bind (listUpdate_at ho rfl ?_ (by rw [List.size_toArray, sizeLine_eq]; omega) (Nat.zero_le _))
  refine wpAny_bind (seqEpoch_at ho1 rfl ?_)
  refine wpAny_bind (wpAny_newTuple ?_ (by show vs.length ≤ _; rw [sizeLine_eq]; omega))
  refine wpAny_bind (wpAny_newList ?_ (Nat.zero_le _))
  refine wpAny_holding ?_
  show wpAny (model prog w) A _ P E { s with heap := ((s.heap.update a (Obj.mapSeq fun _ => (#[] : Array Value))).push (seqObj "tuple" vs.toArray 0)).push (seqObj "list" #[] 0) }
  have ho3 : (((s.heap.update a (Obj.mapSeq fun _ => (#[] : Array Value))).push (seqObj "tuple" vs.toArray 0)).push (seqObj "list" #[] 0)).get? a = some (seqObj "list" #[] e1) := Heap.get?_push_of_some _ (Heap.get?_push_of_some _ ho1)
  have kp3 : ∀ b o, b ≠ a → s.heap.get? b = some o → (((s.heap.update a (Obj.mapSeq fun _ => (#[] : Array Value))).push (seqObj "tuple" vs.toArray 0)).push (seqObj "list" #[] 0)).get? b = some o := fun b o hb e => Heap.get?_push_of_some _ (Heap.get?_push_of_some _ (s1.extBut b o hb e))
  generalize ((s.heap.update a (Obj.mapSeq fun _ => (#[] : Array Value))).push (seqObj "tuple" vs.toArray 0)).push (seqObj "list" #[] 0) = H at ho3 kp3 ⊢
  dsimp only
  have fin : ∀ (out : Array Value), out = vs.toArray → P (.done (.ret .none)) { s with heap := H.update a (Obj.mapSeq fun _ => out) } := fun out e => by
    subst e
    obtain ⟨c2, hc2⟩ : ∃ c2, (H.update a (Obj.mapSeq fun _ => vs.toArray)).get? a = some (seqObj "list" vs.toArray c2) := ⟨_, get?_update_seq ho3 fun _ => vs.toArray⟩
    exact h _ c2 hc2 fun b o hb e => (Heap.SameBut.update ..).extBut b o hb (kp3 b o hb e)
  by_cases h2 : vs.toArray.size < 2
  · rw [if_pos h2, if_pos h2]
    refine wpAny_bind (wpAny_pure ?_)
    rw [StateT.run_pure]
    refine wpAny_bind (wpAny_pure ?_)
    dsimp only
    refine wpAny_bind (seqEpoch_at ho3 rfl ?_)
    refine wpAny_bind (listUpdate_at ho3 rfl ?_ (Nat.zero_le _) (by rw [Array.size_map]; show (pairsOf vs).size ≤ _; rw [pairsOf_size, sizeLine_eq]; omega))
    simp only [bne_self_eq_false, Bool.false_eq_true, if_false]
    refine wpAny_pure (fin _ ?_)
    show (vs.toArray.zip vs.toArray).map (·.2) = vs.toArray
    apply Array.toList_inj.mp
    rw [Array.toList_map, Array.toList_zip]
    exact List.map_snd_zip (Nat.le_refl _)
  · rw [if_neg h2, if_neg h2]
    rw [List.size_toArray] at h2
    obtain ⟨κ, k1, k2⟩ := hk (by omega) H kp3
    refine wpAny_bind (wpAny_mono (k1 (fun κ' s' => κ' = κ ∧ s' = { s with heap := H }) ⟨rfl, rfl⟩) ?_ fun _ _ x => x.elim)
    rintro _ _ ⟨rfl, rfl⟩
    refine wpAny_bind (wpAny_mono (kat_run (vs := vs) (Q := fun st' s' => ∃ p : Array Nat, p = List.toArray (List.range vs.length) ∧ arrOf st' = p.map (kas_item (vs.toArray.zip vs.toArray)) ∧ failedOf st' = none ∧ s' = { s with heap := H })
      (G := fun p s' => p = List.toArray (List.range vs.length) ∧ s' = { s with heap := H }) rfl (by omega) (by omega) (fun p' st' s' a1 a2 a3 a4 => ⟨p', a4.1, a2, a3, a4.2⟩) (run_wp (fun i j C hi hj c => k2 i j C hi hj c) _ _ _ (run_at (by omega) h6) ⟨rfl, rfl⟩)) ?_ fun _ _ e => e)
    rintro ⟨⟨⟩, st'⟩ s' ⟨p, rfl, har, hf, rfl⟩
    dsimp only
    have hout := kat_snds (vs := vs) (ks := vs) rfl har
    have ev : (List.toArray ((List.toArray (List.range vs.length)).toList.map fun i => vs.getD i Value.none)) = vs.toArray := by
      congr 1
      refine List.ext_getElem (by simp) fun i h1 h2 => ?_
      simp [h2]
    rw [hout, ev]
    refine wpAny_bind (seqEpoch_at ho3 rfl ?_)
    refine wpAny_bind (listUpdate_at ho3 rfl ?_ (Nat.zero_le _) (by rw [List.size_toArray, sizeLine_eq]; omega))
    rw [hf]
    simp only [bne_self_eq_false, Bool.false_eq_true, if_false]
    exact wpAny_pure (fin _ rfl)
end
end Mine

end
section
open PySem PySem.W PyProof.Rows PySem.Calls
set_option Elab.async false
set_option maxRecDepth 100000
namespace Mine
variable {c : Cx}

theorem lexlt_irrefl : ∀ (a : List Int), lexlt a a = false
  | [] => rfl
  | x :: r => by unfold lexlt; rw [if_neg (Int.lt_irrefl x), if_pos rfl]; exact lexlt_irrefl r
theorem lexlt_asymm : ∀ {a b : List Int}, lexlt a b = true → lexlt b a = false
  | [], [], h => by cases h
  | [], _ :: _, _ => rfl
  | _ :: _, [], h => by cases h
  | x :: r, y :: s, h => by
    unfold lexlt at h ⊢
    by_cases h1 : x < y
    · rw [if_neg (by omega), if_neg (by omega)]
    · rw [if_neg h1] at h
      by_cases h2 : x = y
      · rw [if_pos h2] at h
        rw [if_neg (by omega), if_pos h2.symm]
        exact lexlt_asymm h
      · rw [if_neg h2] at h; cases h
theorem lexlt_trans : ∀ {a b d : List Int}, lexlt a b = true → lexlt b d = true → lexlt a d = true
  | [], [], _, h, _ => by cases h
  | [], _ :: _, [], _, h => by cases h
  | [], _ :: _, _ :: _, _, _ => rfl
  | _ :: _, [], _, h, _ => by cases h
  | _ :: _, _ :: _, [], _, h => by cases h
  | x :: r, y :: s, z :: t, h, h' => by
    unfold lexlt at h h' ⊢
    by_cases h1 : x < y
    · by_cases h3 : y < z
      · rw [if_pos (by omega)]
      · rw [if_neg h3] at h'
        by_cases h4 : y = z
        · rw [if_pos (by omega)]
        · rw [if_neg h4] at h'; cases h'
    · rw [if_neg h1] at h
      by_cases h2 : x = y
      · rw [if_pos h2] at h
        by_cases h3 : y < z
        · rw [if_pos (by omega)]
        · rw [if_neg h3] at h'
          by_cases h4 : y = z
          · rw [if_pos h4] at h'
            rw [if_neg (by omega), if_pos (by omega)]
            exact lexlt_trans h h'
          · rw [if_neg h4] at h'; cases h'
      · rw [if_neg h2] at h; cases h
theorem asc_pair : ∀ {l : List (List Int)}, ascK l = true → l.Pairwise fun a b => lexlt a b = true
  | [], _ => .nil
  | [_], _ => List.pairwise_singleton _ _
  | a :: b :: r, h => by
    unfold ascK at h
    rw [Bool.and_eq_true] at h
    have ih := asc_pair h.2
    refine List.pairwise_cons.mpr ⟨fun x hx => ?_, ih⟩
    rcases List.mem_cons.mp hx with rfl | hx
    · exact h.1
    · exact lexlt_trans h.1 ((List.pairwise_cons.mp ih).1 x hx)
theorem asc_at {l : List (List Int)} (h : ascK l = true) {i j : Nat} {a b : List Int} (hi : l[i]? = some a) (hj : l[j]? = some b) : lexlt a b = decide (i < j) := by
  have P := List.pairwise_iff_getElem.mp (asc_pair h)
  obtain ⟨hi', rfl⟩ := List.getElem?_eq_some_iff.mp hi
  obtain ⟨hj', rfl⟩ := List.getElem?_eq_some_iff.mp hj
  rcases Nat.lt_trichotomy i j with h1 | h1 | h1
  · rw [decide_eq_true h1]; exact P i j hi' hj' h1
  · subst h1; rw [decide_eq_false (Nat.lt_irrefl _)]; exact lexlt_irrefl _
  · rw [decide_eq_false (by omega)]; exact lexlt_asymm (P j i hj' hi' h1)

theorem RDs.get {θ : Th} {h : Heap} : ∀ {l : List (List Int × V)} {xs : List (List Int × Addr × Value)}, RDs θ h l xs → ∀ {j : Nat} {k : List Int} {u : V}, l[j]? = some (k, u) → ∃ a w, xs[j]? = some (k, a, w) ∧ RV θ h (keyV k) (.ref a)
  | [], _, _, j, k, u, q => by simp at q
  | (k', v) :: l, _, e, 0, k, u, q => by
    obtain ⟨a, w, r, h1, h2, _, _⟩ := e
    simp at q
    obtain ⟨rfl, rfl⟩ := q
    exact ⟨a, w, by rw [h1]; rfl, h2⟩
  | (k', v) :: l, _, e, j + 1, k, u, q => by
    obtain ⟨a, w, r, h1, _, _, h4⟩ := e
    simp at q
    obtain ⟨a', w', h5, h6⟩ := RDs.get h4 q
    exact ⟨a', w', by rw [h1]; simpa using h5, h6⟩
theorem rvs_of {θ : Th} {h : Heap} : ∀ {l : List V} {vs : List Value}, vs.length = l.length → (∀ (j : Nat) (x : V), l[j]? = some x → ∃ v, vs[j]? = some v ∧ RV θ h x v) → RVs θ h l vs
  | [], [], _, _ => rfl
  | [], _ :: _, e, _ => by cases e
  | _ :: _, [], e, _ => by cases e
  | x :: l, v :: vs, e, q => by
    obtain ⟨v', h1, h2⟩ := q 0 x rfl
    cases h1
    exact ⟨v, vs, rfl, h2, rvs_of (by simpa using e) fun j y hy => q (j + 1) y (by simpa using hy)⟩
theorem kat_tups {θ : Th} {h : Heap} : ∀ {l : List (List Int)} {vs : List Value}, RVs θ h (l.map keyV) vs → (∀ k ∈ l, k ≠ []) → ∃ fs, KatTups h vs fs ∧ fs.length = l.length ∧ ∀ f ∈ fs, ∃ i t, f = Value.int i t
  | [], _, e, _ => by rw [show _ = [] from e]; exact ⟨[], KatTups.nil, rfl, fun _ q => by cases q⟩
  | k :: l, _, e, hn => by
    obtain ⟨v, r, rfl, ⟨a, ws, m, rfl, h2, _, _, h5⟩, h3⟩ := e
    obtain ⟨fs, t, hl, hf⟩ := kat_tups h3 fun k' hk => hn k' (List.mem_cons_of_mem _ hk)
    cases k with
    | nil => exact absurd rfl (hn _ List.mem_cons_self)
    | cons i k' =>
      obtain ⟨f, ws', rfl, ⟨u, rfl⟩, _⟩ := h5
      exact ⟨Value.int i u :: fs, KatTups.cons h2 rfl rfl (by simp) t, by simp [hl], fun f hf' => by
        rcases List.mem_cons.mp hf' with rfl | hf'
        · exact ⟨i, u, rfl⟩
        · exact hf f hf'⟩
theorem sort_ok (lo : ∀ m, c.b.get? m = none → (m == sysModules) = false) : SortOk c := by
  intro A σ θ h i es v hA hu r hσ hv hc tk
  rw [Bool.and_eq_true, Bool.and_eq_true, decide_eq_true_eq] at hc
  obtain ⟨⟨hasc, hne⟩, h6⟩ := hc
  obtain ⟨p, hp, rfl⟩ := hv
  obtain ⟨h0, hz, xs, ⟨o, ens, ep, g, gx, gd, ge, gk, gn⟩, hR⟩ := r.objs i _ p hσ hp
  rw [h0]
  have hxl := hR.length
  have hel : ens.size = xs.length := size_of_entries ge
  have hlo := lo _ (r.off p.2 (List.mem_map.mpr ⟨p, List.mem_of_getElem? hp, rfl⟩)).1
  refine call_function_entry kind_sorted plain_sorted entry_sorted (args_sorted1 _) ?_
  unfold Builtin.«sorted»
  refine wpAny_bind (m := checkCount "sorted" 1 1 _) (wpAny_pure ?_)
  refine wpAny_bind (kdu_collect (A := A.in1) (raw_src (es := ens) (ep := ep) hlo) hA ⟨o, g, gx, gd⟩ (by rw [sizeLine_eq]; omega) fun h' tk' acc hk hacc => ?_)
  have hl : acc.toList.length = es.length := by rw [Array.length_toList, hacc.1]; omega
  -- what was collected: the keys
  have hkeys : ∀ (j : Nat) (k : List Int) (u : V), es[j]? = some (k, u) → ∃ a, acc.toList[j]? = some (Value.ref a) ∧ RV θ h (keyV k) (Value.ref a) := by
    intro j k u hj
    obtain ⟨a, w, hx, hq⟩ := hR.get hj
    have hlt := (List.getElem?_eq_some_iff.mp hx).1
    have hja : j < acc.size := by rw [hacc.1, hel]; exact hlt
    obtain ⟨e, he, hv⟩ := hacc.2 j acc[j] (by simp [hja])
    have he2 : ens.toList[j]? = some e := by simpa using he
    rw [ge, List.getElem?_map, hx] at he2
    cases he2
    exact ⟨a, by simp [hja, hv, entryOfKey], hq⟩
  refine wpAny_bind (wpAny_newList ?_ (by rw [hl, sizeLine_eq]; omega))
  have S := Stp.grow r hk
  have S₂ := Stp.grow S.rep (h' := h'.push (seqObj "list" acc.toList.toArray 0)) fun b o e => Heap.get?_push_of_some _ e
  have hnew : (h'.push (seqObj "list" acc.toList.toArray 0)).get? h'.objs.size = some (seqObj "list" acc.toList.toArray 0) := Heap.get?_push_size _ rfl
  have hoff := new_off S.rep (Nat.le_refl h'.objs.size)
  have hq₂ : ∀ (j : Nat) (k : List Int) (u : V), es[j]? = some (k, u) → ∃ a, acc.toList[j]? = some (Value.ref a) ∧ RV θ (h'.push (seqObj "list" acc.toList.toArray 0)) (keyV k) (Value.ref a) := fun j k u hj => by
    obtain ⟨a, e1, e2⟩ := hkeys j k u hj
    exact ⟨a, e1, (e2.step r S).step S.rep S₂⟩
  show wpAny _ A.in1 (holding [.ref h'.objs.size] (call (.builtin "list.sort") [.ref h'.objs.size]) >>= _) _ _ _
  refine wpAny_bind (wpAny_holding (wpAny_call_entry slot_list_sort ⟨_, hnew, rfl⟩ entry_list_sort (own_sort hnew (by omega) ?_ ?_) (args_list_sort _)))
  · intro h2 h₄ kp₄
    have S₄ : Stp c σ θ θ h h₄ := Stp.grow r fun b o e => kp₄ b o (Nat.ne_of_lt (Heap.lt_size (hk b o e))) (Heap.get?_push_of_some _ (hk b o e))
    have hm : es.map (fun e => keyV e.1) = (es.map (·.1)).map keyV := by rw [List.map_map]; rfl
    have hq₄ : RVs θ h₄ ((es.map (·.1)).map keyV) acc.toList := by
      refine rvs_of (by simp [hl]) fun j x hx => ?_
      rw [← hm, List.getElem?_map] at hx
      cases hj : es[j]? with
      | none => rw [hj] at hx; cases hx
      | some e =>
        rw [hj] at hx; cases hx
        obtain ⟨a, e1, e2⟩ := hkeys j e.1 e.2 hj
        exact ⟨_, e1, e2.step r S₄⟩
    obtain ⟨fs, t, hfl, hfi⟩ := kat_tups hq₄ fun k hk => by
      have := List.all_eq_true.mp hne k hk
      intro q; subst q; cases this
    refine ⟨tuples' (Value.type "int" != Value.type "tuple"), fun Q q => kat_kind t (by rw [hfl, List.length_map]; omega) (fun v hv => by
      obtain ⟨i, u, rfl⟩ := hfi v hv
      exact Looks.of_pure rfl) rfl q, fun i j C hi hj q => ?_⟩
    unfold kas_ask
    rw [hl] at hi hj
    obtain ⟨a, a1, a2⟩ := hkeys i _ _ (List.getElem?_eq_getElem hi)
    obtain ⟨b, b1, b2⟩ := hkeys j _ _ (List.getElem?_eq_getElem hj)
    have ga : acc.toList.getD i Value.none = .ref a := by rw [List.getD_eq_getElem?_getD, a1]; rfl
    have gb : acc.toList.getD j Value.none = .ref b := by rw [List.getD_eq_getElem?_getD, b1]; rfl
    rw [ga, gb]
    obtain ⟨_, ws, m, e1, g1, _, _, g5⟩ := a2.step r S₄
    obtain ⟨_, ws', m', e2, g1', _, _, g5'⟩ := b2.step r S₄
    cases e1; cases e2
    have z1 := g5.length
    have z2 := g5'.length
    rw [List.length_map] at z1 z2
    refine kat_lt g1 rfl g1' rfl (lex_ints _ _ ws ws' 0 g5 g5' (by rw [List.size_toArray, List.size_toArray, z1, z2]) ?_)
    rw [asc_at hasc (i := i) (j := j) (by rw [List.getElem?_map, List.getElem?_eq_getElem hi]; rfl) (by rw [List.getElem?_map, List.getElem?_eq_getElem hj]; rfl)]
    exact q
  · intro h₃ e₃ g₃ kp₃
    have S₃ : Stp c σ θ θ h h₃ := Stp.grow r fun b o e => kp₃ b o (Nat.ne_of_lt (Heap.lt_size (hk b o e))) (Heap.get?_push_of_some _ (hk b o e))
    refine ⟨_, rfl, wpAny_pure ⟨_, rfl, h₃, _, rfl, S₃, _, acc.toList, e₃, rfl, g₃, hoff.1, by rw [hl]; unfold lcap; omega, rvs_of (by simp [hl]) fun j x hx => ?_⟩⟩
    rw [List.getElem?_map] at hx
    cases hj : es[j]? with
    | none => rw [hj] at hx; cases hx
    | some e =>
      rw [hj] at hx; cases hx
      obtain ⟨a, e1, e2⟩ := hkeys j e.1 e.2 hj
      exact ⟨_, e1, e2.step r S₃⟩
end Mine

end
section
open PySem PySem.W PyProof.Rows PySem.Calls
set_option Elab.async false
set_option maxRecDepth 100000
set_option maxHeartbeats 8000000
namespace Mine

theorem k_ga (P : Params) : findIn (hd.heap_1 P) (.ref 191) "__getattribute__" = some (some (.builtin "object.__getattribute__")) := by kernel_rfl
theorem k_ga' (P : Params) : findIn (hd.heap_1 P) (.ref 191) "__getattr__" = some none := by kernel_rfl
theorem k_sa (P : Params) : findIn (hd.heap_1 P) (.ref 191) "__setattr__" = some (some (.builtin "object.__setattr__")) := by kernel_rfl
theorem k_hasD (P : Params) : hasDictIn (hd.heap_1 P) 191 = true := by kernel_rfl
theorem k_over (P : Params) : plainOver (hd.heap_1 P) 191 = true := by kernel_rfl
theorem k_init (P : Params) : findIn (hd.heap_1 P) (.ref 191) "__init__" = some (some (.ref 99)) := by kernel_rfl
theorem k_initF (P : Params) : typeIn (hd.heap_1 P) (.ref 99) = some (.type "function") := by kernel_rfl
theorem k_makes (P : Params) : makesIn (hd.heap_1 P) 191 = true := by kernel_rfl
theorem k_keepC (P : Params) : keepIn (hd.heap_1 P) (.ref 191) = true := by kernel_rfl
theorem k_dga (P : Params) : specialIn (hd.heap_1 P) (.ref 81) "__getattribute__" = some (some (.builtin "type.__getattribute__")) := by kernel_rfl
theorem k_keepD (P : Params) : keepIn (hd.heap_1 P) (.ref 57) = true := by kernel_rfl

theorem k_attr (P : Params) : ∀ x, attrOk x = true → findIn (hd.heap_1 P) (.ref 191) x = some none ∧ takerIn (hd.heap_1 P) 191 x = some none := by
  intro x h
  unfold attrOk at h
  simp only [Bool.or_eq_true, decide_eq_true_eq] at h
  rcases h with ((((((((((h | h) | h) | h) | h) | h) | h) | h) | h) | h) | h) | h <;> subst h <;> exact ⟨by kernel_rfl, by kernel_rfl⟩
def AllN (Q : Str → Nat → Prop) : List (Str × Nat) → Prop
  | [] => True
  | p :: r => Q p.1 p.2 ∧ AllN Q r
theorem n_all {Q : Str → Nat → Prop} {x : Str} {v : Nat} : ∀ l : List (Str × Nat), AllN Q l → nget l x = some v → Q x v
  | [], _, e => by cases e
  | (y, u) :: r, h, e => by
    unfold nget at e
    split at e
    · rename_i q; cases e; exact q ▸ h.1
    · exact n_all r h.2 e
theorem k_meth (P : Params) : ∀ x a, meth x = some a → findIn (hd.heap_1 P) (.ref 191) x = some (some (.ref a)) ∧ isFn (hd.heap_1 P) (.ref a) = true ∧ keepIn (hd.heap_1 P) (.ref a) = true ∧ attrOk x = false := by
  intro x a h
  refine n_all (Q := fun x a => findIn (hd.heap_1 P) (.ref 191) x = some (some (.ref a)) ∧ isFn (hd.heap_1 P) (.ref a) = true ∧ keepIn (hd.heap_1 P) (.ref a) = true ∧ attrOk x = false) methT ?_ h
  exact ⟨⟨by kernel_rfl, by kernel_rfl, by kernel_rfl, by kernel_rfl⟩, ⟨by kernel_rfl, by kernel_rfl, by kernel_rfl, by kernel_rfl⟩, ⟨by kernel_rfl, by kernel_rfl, by kernel_rfl, by kernel_rfl⟩, ⟨by kernel_rfl, by kernel_rfl, by kernel_rfl, by kernel_rfl⟩, ⟨by kernel_rfl, by kernel_rfl, by kernel_rfl, by kernel_rfl⟩, ⟨by kernel_rfl, by kernel_rfl, by kernel_rfl, by kernel_rfl⟩, ⟨by kernel_rfl, by kernel_rfl, by kernel_rfl, by kernel_rfl⟩, ⟨by kernel_rfl, by kernel_rfl, by kernel_rfl, by kernel_rfl⟩, ⟨by kernel_rfl, by kernel_rfl, by kernel_rfl, by kernel_rfl⟩, ⟨by kernel_rfl, by kernel_rfl, by kernel_rfl, by kernel_rfl⟩, ⟨by kernel_rfl, by kernel_rfl, by kernel_rfl, by kernel_rfl⟩, ⟨by kernel_rfl, by kernel_rfl, by kernel_rfl, by kernel_rfl⟩, trivial⟩
end Mine

end
section
open PySem PySem.W PyProof.Rows PySem.Calls
set_option Elab.async false
set_option maxRecDepth 100000
set_option maxHeartbeats 8000000
namespace Mine
theorem k_dinit (P : Params) : ∃ mc, readsIn (hd.heap_1 P) 81 mc = true ∧ findCls (hd.heap_1 P) (.ref 81) mc "__init__" = some (.val (.ref 57)) := ⟨.type "type", by kernel_rfl, by kernel_rfl⟩
theorem kok (P : Params) : KOk (hd.heap_1 P) where
  ga := k_ga P
  ga' := k_ga' P
  sa := k_sa P
  hasD := k_hasD P
  over := k_over P
  attr := k_attr P
  init := k_init P
  initF := k_initF P
  makes := k_makes P
  keepC := k_keepC P
  dga := k_dga P
  dinit := k_dinit P
  keepD := k_keepD P
  meth := k_meth P
end Mine

end
section
open PySem PySem.W PyProof.Rows PySem.Calls
set_option Elab.async false
set_option maxRecDepth 100000
set_option maxHeartbeats 8000000
namespace Mine

noncomputable def refOf : Value → Option Addr
  | .ref q => some q
  | _ => none
theorem refOf_some : ∀ {v : Value} {q : Addr}, refOf v = some q → v = .ref q := by
  intro v q h
  cases v <;> first | (cases h; done) | (cases h; rfl)
noncomputable def strOf : Option Value → Option Str
  | some (.str s _) => some s
  | _ => none
theorem strOf_some : ∀ {v : Option Value} {s : Str}, strOf v = some s → ∃ t, v = some (.str s t) := by
  intro v s h
  cases v with
  | none => cases h
  | some v => cases v <;> first | (cases h; done) | (cases h; exact ⟨_, rfl⟩)
noncomputable def fieldsOf (o : Obj) : Option (Array Value) := match o.data with
  | .fields vs => some vs
  | _ => none
theorem fieldsOf_some {o : Obj} {vs : Array Value} (h : fieldsOf o = some vs) : o.data = .fields vs := by
  unfold fieldsOf at h
  cases hd : o.data <;> rw [hd] at h <;> first | (cases h; done) | (cases h; rfl)
noncomputable def isNoV : Value → Bool
  | .none => true
  | _ => false
theorem isNoV_of : ∀ {v : Value}, isNoV v = true → v = .none := by
  intro v h
  cases v <;> first | rfl | (cases h; done)
noncomputable def plainP (ps : Arguments) : Bool := ps.posonlyargs.isEmpty && ps.vararg.isNone && ps.kwonlyargs.isEmpty && ps.kw_defaults.isEmpty && ps.kwarg.isNone
theorem plainP_of {ps : Arguments} (h : plainP ps = true) : ∃ as ds, ps = ⟨[], as, none, [], [], none, ds⟩ := by
  obtain ⟨po, ar, va, ko, kd, kw, df⟩ := ps
  unfold plainP at h
  simp only [Bool.and_eq_true, List.isEmpty_iff, Option.isNone_iff_eq_none] at h
  obtain ⟨⟨⟨⟨h1, h2⟩, h3⟩, h4⟩, h5⟩ := h
  subst h1 h2 h3 h4 h5
  exact ⟨ar, df, rfl⟩
/-- the name that a code object bears -/
noncomputable def nameOf (K : Frag) (v : Value) : Option Str := (refOf v).bind fun q => (K.lookup q).bind fun o => (fieldsOf o).bind fun vs => strOf vs[1]?
theorem nameOf_some {K : Frag} {v : Value} {s : Str} (h : nameOf K v = some s) : ∃ q o vs t, v = .ref q ∧ K.lookup q = some o ∧ o.data = .fields vs ∧ vs[1]? = some (.str s t) := by
  unfold nameOf at h
  obtain ⟨q, h1, h⟩ := Option.bind_eq_some_iff.mp h
  obtain ⟨o, h2, h⟩ := Option.bind_eq_some_iff.mp h
  obtain ⟨vs, h3, h⟩ := Option.bind_eq_some_iff.mp h
  obtain ⟨t, h4⟩ := strOf_some h
  exact ⟨q, o, vs, t, refOf_some h1, h2, fieldsOf_some h3, h4⟩
/-- the facts of a function, by computation -/
noncomputable def fnB (K : Frag) (f : Nat) (fd : FuncData) : Bool :=
  !fd.scope.isCoroutine && !fd.scope.isGenerator && decide (fd.scope.kind = .function) && fd.closure.isEmpty && decide (fd.globals = mainGlobals) && decide (fd.builtins = builtinsNs) &&
  isNoV fd.defaults && plainP fd.params &&
  nodupS (fd.params.args.map (·.arg)) &&
  ((fd.params.args.map (·.arg)).all fun x => fd.scope.names.lookup x == some .local || fd.scope.names.lookup x == some .cell) &&
  (fd.scope.names.all fun y => !(y.2 == .free)) &&
  decide (nameOf K fd.code = some fd.qualname) &&
  keepIn K (.ref f) &&
  (if fd.scope.names.lookup ("talk" : Str) == some .local then decide (refOf fd.code = some 211) && decide ((fd.qualname ++ ".<locals>.") ++ "<lambda>" = qualT 207) else true)
theorem fns_ok (P : Params) : (fns.all fun f => match fdOf (hd.heap_1 P) f with | some fd => fnB (hd.heap_1 P) f fd | none => true) = true := by kernel_rfl
end Mine

end
section
open PySem PySem.W PyProof.Rows PySem.Calls
set_option Elab.async false
namespace Mine
variable {c : Cx}

theorem nodup_of : ∀ {l : List Str}, nodupS l = true → l.Nodup
  | [], _ => List.nodup_nil
  | x :: r, h => by
    unfold nodupS at h
    rw [Bool.and_eq_true] at h
    refine List.nodup_cons.mpr ⟨fun q => ?_, nodup_of h.2⟩
    have := h.1
    rw [Bool.not_eq_true'] at this
    rw [← Bool.not_eq_true] at this
    exact this (List.any_eq_true.mpr ⟨x, q, by simp⟩)
theorem fd_at {K : Frag} {f : Nat} {fd : FuncData} (e : fdOf K f = some fd) : ∃ o, K.lookup f = some o ∧ o.data = .func fd := by
  unfold fdOf at e
  split at e
  · rename_i h; cases e; exact ⟨_, h, rfl⟩
  · cases e
theorem fnF_of {f : Nat} {fd : FuncData} (e : fdOf c.K f = some fd) (h : fnB c.K f fd = true) (hd : CodeHd c.b 211 207) : FnF c f fd := by
  unfold fnB at h
  simp only [Bool.and_eq_true] at h
  obtain ⟨⟨⟨⟨⟨⟨⟨⟨⟨⟨⟨⟨⟨h1, h2⟩, h3⟩, h4⟩, h5⟩, h6⟩, h7⟩, h8⟩, h9⟩, h10⟩, h11⟩, h12⟩, h13⟩, h14⟩ := h
  refine ⟨fd_at e, by simpa using h1, by simpa using h2, of_decide_eq_true h3, List.isEmpty_iff.mp h4, of_decide_eq_true h5, of_decide_eq_true h6, isNoV_of h7, plainP_of h8, nodup_of h9, fun x hx => ?_, fun y q => ?_, nameOf_some (of_decide_eq_true h12), h13, fun q => ?_⟩
  · have := List.all_eq_true.mp h10 x hx
    rw [Bool.or_eq_true] at this
    exact this.elim (fun q => .inl (eq_of_beq q)) fun q => .inr (eq_of_beq q)
  · have := List.all_eq_true.mp h11 _ (lookup_mem q)
    cases this
  · rw [if_pos (by rw [q]; rfl), Bool.and_eq_true] at h14
    exact ⟨211, 207, refOf_some (of_decide_eq_true h14.1), by simp [tabs], hd, of_decide_eq_true h14.2⟩
theorem fnsOk (P : Params) (hK : c.K = hd.heap_1 P) (h : CodeHd c.b 211 207) : FnsOk c := by
  intro f fd hf e
  have := List.all_eq_true.mp (fns_ok P) f hf
  rw [hK] at e
  rw [e] at this
  exact fnF_of (by rw [hK]; exact e) (by rw [hK]; exact this) h
end Mine

end
section
open PySem PySem.W PyProof.Rows PySem.Calls
set_option Elab.async false
set_option maxRecDepth 100000
set_option maxHeartbeats 8000000
namespace Mine
theorem g1 (P : Params) : nsIn (hd.heap_1 P) mainGlobals "Exchange" = some (some (.ref 191)) := by kernel_rfl
theorem g2 (P : Params) : nsIn (hd.heap_1 P) mainGlobals "len" = some none := by kernel_rfl
end Mine

end
section
open PySem PySem.W PyProof.Rows PySem.Calls
set_option Elab.async false
set_option maxRecDepth 100000
set_option maxHeartbeats 8000000
namespace Mine
noncomputable def isI (r : Option (Option Value)) (i : Int) : Bool := match r with
  | some (some (.int j _)) => decide (j = i)
  | _ => false
theorem isI_of {r : Option (Option Value)} {i : Int} (h : isI r i = true) : ∃ t, r = some (some (.int i t)) := by
  unfold isI at h
  split at h
  · rename_i j t; exact ⟨t, by rw [of_decide_eq_true h]⟩
  · cases h
theorem i_MASTER (P : Params) : isI (nsIn (hd.heap_1 P) mainGlobals "MASTER") 1 = true := by kernel_rfl
theorem i_MORE (P : Params) : isI (nsIn (hd.heap_1 P) mainGlobals "MORE") 2 = true := by kernel_rfl
theorem i_INIT (P : Params) : isI (nsIn (hd.heap_1 P) mainGlobals "INIT") 4 = true := by kernel_rfl
theorem i_EXTERNAL (P : Params) : isI (nsIn (hd.heap_1 P) mainGlobals "EXTERNAL") 5 = true := by kernel_rfl
theorem i_GREATEST (P : Params) : isI (nsIn (hd.heap_1 P) mainGlobals "GREATEST_KIND") 5 = true := by kernel_rfl
end Mine

end
section
open PySem PySem.W PyProof.Rows PySem.Calls
set_option Elab.async false
set_option maxRecDepth 100000
set_option maxHeartbeats 8000000
namespace Mine
def AllQ (Q : Str → V → Prop) : List (Str × V) → Prop
  | [] => True
  | p :: r => Q p.1 p.2 ∧ AllQ Q r
theorem gl_all {Q : Str → V → Prop} {x : Str} {v : V} : ∀ l : List (Str × V), AllQ Q l → aget l x = some v → Q x v
  | [], _, e => by cases e
  | (y, u) :: r, h, e => by
    unfold aget at e
    split at e
    · rename_i q; cases e; exact q ▸ h.1
    · exact gl_all r h.2 e
theorem glob_ok (P : Params) {mg mb : Str → Option Value} {h : Heap} (X : (hd.heap_1 P).In h) (G : h.Ns mainGlobals mg) (B : ∀ x : Str, x ≠ "__name__" → mb x = bootBuiltins x) (hN : ∃ t, mg "NUMBERS" = some (.int 4294967296 t)) :
    ∀ x v, gl x = some v → ∃ val, GV v val ∧ (mg x = some val ∨ (mg x = none ∧ mb x = some val)) := by
  intro x v e
  have I {n : Str} {i : Int} (q : isI (nsIn (hd.heap_1 P) mainGlobals n) i = true) : ∃ val, GV (.int i) val ∧ (mg n = some val ∨ (mg n = none ∧ mb n = some val)) := by
    obtain ⟨t, ht⟩ := isI_of q
    exact ⟨_, ⟨t, rfl⟩, .inl (mg_of X G ht)⟩
  have R {n : Str} {a : Value} (q : nsIn (hd.heap_1 P) mainGlobals n = some (some a)) : ∃ val, GV (.top a) val ∧ (mg n = some val ∨ (mg n = none ∧ mb n = some val)) := ⟨a, rfl, .inl (mg_of X G q)⟩
  have Bt {n : Str} {a : Value} (q : nsIn (hd.heap_1 P) mainGlobals n = some none) (hn : n ≠ "__name__") (b : bootBuiltins n = some a) : ∃ val, GV (.top a) val ∧ (mg n = some val ∨ (mg n = none ∧ mb n = some val)) := ⟨a, rfl, .inr ⟨mg_none_of X G q, (B n hn).trans b⟩⟩
  refine gl_all (Q := fun x v => ∃ val, GV v val ∧ (mg x = some val ∨ (mg x = none ∧ mb x = some val))) glT ?_ e
  exact ⟨I (i_MASTER P), I (i_MORE P), I (i_INIT P), hN.elim fun t ht => ⟨_, ⟨t, rfl⟩, .inl ht⟩, I (i_EXTERNAL P), I (i_GREATEST P), R (by kernel_rfl), R (by kernel_rfl), R (by kernel_rfl), R (by kernel_rfl), R (by kernel_rfl), R (by kernel_rfl), R (by kernel_rfl), Bt (by kernel_rfl) (by decide) (by decide +kernel), Bt (by kernel_rfl) (by decide) (by decide +kernel), Bt (by kernel_rfl) (by decide) (by decide +kernel), Bt (by kernel_rfl) (by decide) (by decide +kernel), Bt (by kernel_rfl) (by decide) (by decide +kernel), Bt (by kernel_rfl) (by decide) (by decide +kernel), trivial⟩
end Mine

end
section
open PySem PySem.W PyProof.Rows PySem.Calls
set_option Elab.async false
namespace Mine
theorem cx_ok {c : Cx} {P : Params} {p : Program} {loose : List Str} {mean : ExcName → Option Value} (hK : c.K = hd.heap_1 P) (X : c.K.In c.b) (T : Top p loose mean c.mg c.mb c.b) (off : ∀ P ∈ tabs, c.b.get? P = none) (hN : ∃ t, c.mg "NUMBERS" = some (.int 4294967296 t)) : CxOk c where
  X := X
  k := by rw [hK]; exact kok P
  gns := T.g
  bns := T.b
  lim := T.nolimit
  bat := fun Q hQ => by
    obtain ⟨bm, ob, b1, b2, b3, b4, b5, b6⟩ := T.bmain
    refine ⟨bm, ob, b1, b2, fun q => ?_, fun q => ?_, b3, b4, b5, b6⟩
    · obtain ⟨o, es, ep, e, hd, _⟩ := T.g
      rw [q, e] at b3; cases b3; rw [hd] at b6; cases b6
    · rw [q, off Q hQ] at b3; cases b3
  glob := glob_ok P (by rw [← hK]; exact X) T.g T.builtins hN
end Mine

end
section
open PySem PySem.W PyProof.Rows
set_option Elab.async false
set_option maxRecDepth 100000
set_option maxHeartbeats 8000000
namespace Mine
theorem ofs_inj (a b : String) : (Str.ofString a = Str.ofString b) = (a = b) := by
  rw [Str.ofString_eq_toList, Str.ofString_eq_toList]
  refine propext ⟨fun h => ?_, fun h => by rw [h]⟩
  injection h with h
  have h2 : a.toList.map Char.toNat = b.toList.map Char.toNat := by simpa using congrArg Array.toList h
  have h3 : a.toList = b.toList := by
    refine List.map_inj_right (f := Char.toNat) ?_ |>.mp h2
    intro x y q
    exact Char.ext (UInt32.toNat_inj.mp q)
  exact String.toList_inj.mp h3
theorem ofs_beq (a b : String) : (Str.ofString a == Str.ofString b) = decide (a = b) := by
  rw [← decide_eq_decide.mpr (by rw [ofs_inj] : (Str.ofString a = Str.ofString b) ↔ (a = b))]
  rfl
theorem callN_at {K : Frag} {n f : Nat} {vs : List V} {σ : St} {fd : FuncData} {b : List Stmt} (h : fdOf K f = some fd) (hb : fd.body = .stmts b) (hf : (fns.contains f && decide (fd.params.args.length = vs.length)) = true) :
    callN K (n + 1) f vs σ = match evB (callN K n) b fd.scope (binds fd.params.args vs) σ with
        | some (.ret v, _, σ) => some (v, σ)
        | some (_, _, σ) => some (.none, σ)
        | none => none := by
  rw [callN, h]; dsimp only; rw [hb]; dsimp only; rw [if_pos hf]
  all_goals rfl
end Mine

end
section
open PySem PySem.W PyProof.Rows
set_option Elab.async false
set_option maxRecDepth 100000
set_option maxHeartbeats 8000000
namespace Mine
/-- the attributes of a talk -/
noncomputable def tk (p : Nat) (m : Bool) (s : Int) (l : List V) (st : V) (own other : Int) (stage : String) (met : V) (rq : Nat) : List (Str × V) :=
  [("mtu", .int 1500), ("options", .int 2), ("portion", .int p), ("is_master", .bool m), ("seq", .int s), ("left", .lst l), ("sent", st), ("own", .int own), ("other", .int other), ("stage", .str stage), ("met", met), ("requests", .obj rq)]
section
variable {p : Nat} {m : Bool} {s : Int} {l : List V} {st : V} {own other : Int} {stage : String} {met : V} {rq : Nat}
theorem g_mtu : aget (tk p m s l st own other stage met rq) (Str.ofString "mtu") = some (.int 1500) := by rfl
theorem g_options : aget (tk p m s l st own other stage met rq) (Str.ofString "options") = some (.int 2) := by rfl
theorem g_portion : aget (tk p m s l st own other stage met rq) (Str.ofString "portion") = some (.int (p : Int)) := by rfl
theorem g_is_master : aget (tk p m s l st own other stage met rq) (Str.ofString "is_master") = some (.bool m) := by rfl
theorem g_seq : aget (tk p m s l st own other stage met rq) (Str.ofString "seq") = some (.int s) := by rfl
theorem g_left : aget (tk p m s l st own other stage met rq) (Str.ofString "left") = some (.lst l) := by rfl
theorem g_sent : aget (tk p m s l st own other stage met rq) (Str.ofString "sent") = some st := by rfl
theorem g_own : aget (tk p m s l st own other stage met rq) (Str.ofString "own") = some (.int own) := by rfl
theorem g_other : aget (tk p m s l st own other stage met rq) (Str.ofString "other") = some (.int other) := by rfl
theorem g_stage : aget (tk p m s l st own other stage met rq) (Str.ofString "stage") = some (.str (Str.ofString stage)) := by rfl
theorem g_met : aget (tk p m s l st own other stage met rq) (Str.ofString "met") = some met := by rfl
theorem g_requests : aget (tk p m s l st own other stage met rq) (Str.ofString "requests") = some (.obj rq) := by rfl
theorem u_is_master (x : Bool) : aput (tk p m s l st own other stage met rq) (Str.ofString "is_master") (.bool x) = tk p x s l st own other stage met rq := by rfl
theorem u_seq (x : Int) : aput (tk p m s l st own other stage met rq) (Str.ofString "seq") (.int x) = tk p m x l st own other stage met rq := by rfl
theorem u_left (x : List V) : aput (tk p m s l st own other stage met rq) (Str.ofString "left") (.lst x) = tk p m s x st own other stage met rq := by rfl
theorem u_sent (x : V) : aput (tk p m s l st own other stage met rq) (Str.ofString "sent") x = tk p m s l x own other stage met rq := by rfl
theorem u_stage (x : String) : aput (tk p m s l st own other stage met rq) (Str.ofString "stage") (.str (Str.ofString x)) = tk p m s l st own other x met rq := by rfl
theorem u_met (x : V) : aput (tk p m s l st own other stage met rq) (Str.ofString "met") x = tk p m s l st own other stage x rq := by rfl
theorem u_requests (x : Nat) : aput (tk p m s l st own other stage met rq) (Str.ofString "requests") (.obj x) = tk p m s l st own other stage met x := by rfl
theorem tk_len : (tk p m s l st own other stage met rq).length = 12 := rfl
theorem n_begin : aget (tk p m s l st own other stage met rq) (Str.ofString "begin") = none := by rfl
theorem n_take : aget (tk p m s l st own other stage met rq) (Str.ofString "take") = none := by rfl
theorem n_is_double : aget (tk p m s l st own other stage met rq) (Str.ofString "is_double") = none := by rfl
theorem n_is_wrong : aget (tk p m s l st own other stage met rq) (Str.ofString "is_wrong") = none := by rfl
theorem n_take_first : aget (tk p m s l st own other stage met rq) (Str.ofString "take_first") = none := by rfl
theorem n_take_next : aget (tk p m s l st own other stage met rq) (Str.ofString "take_next") = none := by rfl
theorem n_led : aget (tk p m s l st own other stage met rq) (Str.ofString "led") = none := by rfl
theorem n_followed : aget (tk p m s l st own other stage met rq) (Str.ofString "followed") = none := by rfl
theorem n_ended : aget (tk p m s l st own other stage met rq) (Str.ofString "ended") = none := by rfl
theorem n_first : aget (tk p m s l st own other stage met rq) (Str.ofString "first") = none := by rfl
theorem n_next_packet : aget (tk p m s l st own other stage met rq) (Str.ofString "next_packet") = none := by rfl
theorem n_has_told_all : aget (tk p m s l st own other stage met rq) (Str.ofString "has_told_all") = none := by rfl
end
theorem m_begin : meth (Str.ofString "begin") = some 106 := by rfl
theorem m_take : meth (Str.ofString "take") = some 113 := by rfl
theorem m_is_double : meth (Str.ofString "is_double") = some 120 := by rfl
theorem m_is_wrong : meth (Str.ofString "is_wrong") = some 127 := by rfl
theorem m_take_first : meth (Str.ofString "take_first") = some 134 := by rfl
theorem m_take_next : meth (Str.ofString "take_next") = some 141 := by rfl
theorem m_led : meth (Str.ofString "led") = some 148 := by rfl
theorem m_followed : meth (Str.ofString "followed") = some 155 := by rfl
theorem m_ended : meth (Str.ofString "ended") = some 162 := by rfl
theorem m_first : meth (Str.ofString "first") = some 64 := by rfl
theorem m_next_packet : meth (Str.ofString "next_packet") = some 71 := by rfl
theorem m_has_told_all : meth (Str.ofString "has_told_all") = some 78 := by rfl
theorem a_mtu : attrOk (Str.ofString "mtu") = true := by rfl
theorem a_options : attrOk (Str.ofString "options") = true := by rfl
theorem a_portion : attrOk (Str.ofString "portion") = true := by rfl
theorem a_is_master : attrOk (Str.ofString "is_master") = true := by rfl
theorem a_seq : attrOk (Str.ofString "seq") = true := by rfl
theorem a_left : attrOk (Str.ofString "left") = true := by rfl
theorem a_sent : attrOk (Str.ofString "sent") = true := by rfl
theorem a_own : attrOk (Str.ofString "own") = true := by rfl
theorem a_other : attrOk (Str.ofString "other") = true := by rfl
theorem a_stage : attrOk (Str.ofString "stage") = true := by rfl
theorem a_met : attrOk (Str.ofString "met") = true := by rfl
theorem a_requests : attrOk (Str.ofString "requests") = true := by rfl
theorem glDescribing : gl (Str.ofString "Describing") = some (.top (.ref 81)) := by rfl
theorem glMASTER : gl (Str.ofString "MASTER") = some (.int 1) := by rfl
theorem glMORE : gl (Str.ofString "MORE") = some (.int 2) := by rfl
theorem glINIT : gl (Str.ofString "INIT") = some (.int 4) := by rfl
theorem glNUMBERS : gl (Str.ofString "NUMBERS") = some (.int 4294967296) := by rfl
theorem glEXTERNAL : gl (Str.ofString "EXTERNAL") = some (.int 5) := by rfl
theorem glGREATEST_KIND : gl (Str.ofString "GREATEST_KIND") = some (.int 5) := by rfl
theorem glbarred : gl (Str.ofString "barred") = some (.top (.ref 28)) := by rfl
theorem glkey_of : gl (Str.ofString "key_of") = some (.top (.ref 43)) := by rfl
theorem glExchange : gl (Str.ofString "Exchange") = some (.top (.ref 191)) := by rfl
theorem gl_law_take : gl (Str.ofString "_law_take") = some (.top (.ref 200)) := by rfl
theorem gl_law_heads : gl (Str.ofString "_law_heads") = some (.top (.ref 205)) := by rfl
theorem gl_law_is_mismatch : gl (Str.ofString "_law_is_mismatch") = some (.top (.ref 212)) := by rfl
theorem gllen : gl (Str.ofString "len") = some (.top (.builtin "len")) := by rfl
theorem glabs : gl (Str.ofString "abs") = some (.top (.builtin "abs")) := by rfl
theorem glsorted : gl (Str.ofString "sorted") = some (.top (.builtin "sorted")) := by rfl
theorem gltuple : gl (Str.ofString "tuple") = some (.top (.type "tuple")) := by rfl
theorem gllist : gl (Str.ofString "list") = some (.top (.type "list")) := by rfl
theorem glrange : gl (Str.ofString "range") = some (.top (.type "range")) := by rfl

theorem binds_at (ps : List Arg) (vs : List V) (y : Str) : binds ps vs y = aget ((ps.map (·.arg)).zip vs) y := rfl
theorem put_at (ρ : Rho) (x y : Str) (v : V) : Rho.put ρ x v y = if y = x then some v else ρ y := rfl
section
variable (σ : St)
theorem b_len_tup (l : List V) : biV σ (.builtin "len") [.tup l] = some (.int l.length) := by rfl
theorem b_len_lst (l : List V) : biV σ (.builtin "len") [.lst l] = some (.int l.length) := by rfl
theorem b_abs (i : Int) : biV σ (.builtin "abs") [.int i] = some (.int i.natAbs) := by rfl
theorem b_tuple (l : List V) : biV σ (.type "tuple") [.lst l] = some (.tup l) := by rfl
theorem b_list (l : List V) : biV σ (.type "list") [.lst l] = some (.lst l) := by rfl
theorem c_lt (x y : Int) : cmpV σ .Lt (.int x) (.int y) = some (decide (x < y)) := rfl
theorem c_gt (x y : Int) : cmpV σ .Gt (.int x) (.int y) = some (decide (y < x)) := rfl
theorem c_le (x y : Int) : cmpV σ .LtE (.int x) (.int y) = some (decide (x ≤ y)) := rfl
theorem c_ge (x y : Int) : cmpV σ .GtE (.int x) (.int y) = some (decide (y ≤ x)) := rfl
theorem c_eq (x y : Int) : cmpV σ .Eq (.int x) (.int y) = some (decide (x = y)) := by rfl
theorem c_ne (x y : Int) : cmpV σ .NotEq (.int x) (.int y) = some (!decide (x = y)) := by rfl
theorem c_is0 : cmpV σ .Is .none .none = some true := rfl
theorem c_is1 (l : List V) : cmpV σ .Is (.tup l) .none = some false := rfl
theorem c_isn0 : cmpV σ .IsNot .none .none = some false := rfl
theorem c_isn1 (l : List V) : cmpV σ .IsNot (.tup l) .none = some true := rfl
theorem c_Eq_exchange_exstart : cmpV σ .Eq (.str (Str.ofString "exchange")) (.str (Str.ofString "exstart")) = some false := by kernel_rfl
theorem c_Eq_exstart_exstart : cmpV σ .Eq (.str (Str.ofString "exstart")) (.str (Str.ofString "exstart")) = some true := by kernel_rfl
theorem c_Eq_exchange_exchange : cmpV σ .Eq (.str (Str.ofString "exchange")) (.str (Str.ofString "exchange")) = some true := by kernel_rfl
theorem c_Eq_full_full : cmpV σ .Eq (.str (Str.ofString "full")) (.str (Str.ofString "full")) = some true := by kernel_rfl
theorem c_Eq_loading_full : cmpV σ .Eq (.str (Str.ofString "loading")) (.str (Str.ofString "full")) = some false := by kernel_rfl
theorem c_Eq__ : cmpV σ .Eq (.str (Str.ofString "")) (.str (Str.ofString "")) = some true := by kernel_rfl
theorem c_Eq_loading_exchange : cmpV σ .Eq (.str (Str.ofString "loading")) (.str (Str.ofString "exchange")) = some false := by kernel_rfl
theorem c_Eq_loading_exstart : cmpV σ .Eq (.str (Str.ofString "loading")) (.str (Str.ofString "exstart")) = some false := by kernel_rfl
theorem c_NotEq_exchange_exstart : cmpV σ .NotEq (.str (Str.ofString "exchange")) (.str (Str.ofString "exstart")) = some true := by kernel_rfl
theorem c_NotEq_exstart_exstart : cmpV σ .NotEq (.str (Str.ofString "exstart")) (.str (Str.ofString "exstart")) = some false := by kernel_rfl
theorem c_NotEq_exchange_exchange : cmpV σ .NotEq (.str (Str.ofString "exchange")) (.str (Str.ofString "exchange")) = some false := by kernel_rfl
theorem c_NotEq_full_full : cmpV σ .NotEq (.str (Str.ofString "full")) (.str (Str.ofString "full")) = some false := by kernel_rfl
theorem c_NotEq_loading_full : cmpV σ .NotEq (.str (Str.ofString "loading")) (.str (Str.ofString "full")) = some true := by kernel_rfl
theorem c_NotEq__ : cmpV σ .NotEq (.str (Str.ofString "")) (.str (Str.ofString "")) = some false := by kernel_rfl
theorem c_NotEq_loading_exchange : cmpV σ .NotEq (.str (Str.ofString "loading")) (.str (Str.ofString "exchange")) = some true := by kernel_rfl
theorem c_NotEq_loading_exstart : cmpV σ .NotEq (.str (Str.ofString "loading")) (.str (Str.ofString "exstart")) = some true := by kernel_rfl
end
theorem n_and (a b : Int) : binV .BitAnd (.int a) (.int b) = some (.int (Builtin.bitAnd a b)) := rfl
theorem n_or (a b : Int) : binV .BitOr (.int a) (.int b) = some (.int (Builtin.bitOr a b)) := rfl
theorem n_add (a b : Int) : binV .Add (.int a) (.int b) = some (.int (a + b)) := rfl
theorem n_sub (a b : Int) : binV .Sub (.int a) (.int b) = some (.int (a - b)) := rfl
theorem n_mod (a b : Int) : binV .Mod (.int a) (.int b) = if b = 0 then none else some (.int (a.fmod b)) := rfl
theorem n_cat (a b : List V) : binV .Add (.lst a) (.lst b) = if a.length + b.length ≤ lcap then some (.lst (a ++ b)) else none := rfl
theorem cut_hi (l : List V) (n : Nat) : cutV (.lst l) .none (.int (n : Int)) = some (.lst (l.take n)) := by
  show some (V.lst ((l.take n).drop 0)) = _; rfl
theorem cut_lo (l : List V) (n : Nat) : cutV (.lst l) (.int (n : Int)) .none = some (.lst (l.drop n)) := rfl
theorem cut_25 (a b c d e f : V) : cutV (.tup [a, b, c, d, e, f]) (.int 2) (.int 5) = some (.tup [c, d, e]) := rfl
theorem swap_na (sc : Scope) (x y : Str) (p q r : Pos) (o e f : Expr) (k : Nat) : swapS sc [.Name x p, .Attribute o y q] (.Tuple [e, f] k r) = some none := by
  unfold swapS
  dsimp only
  split
  · rfl
  · split
    · rfl
    · rw [if_pos]
      cases hb : (List.lookup x sc.names == some NameKind.local && p.line == (Option.map (fun x => x.pos.line) [Expr.Name x p, Expr.Attribute o y q].head?).getD 0) <;> simp only [List.filterMap_cons, List.filterMap_nil, hb] <;> simp
end Mine

end
section
open PySem PySem.W PyProof.Rows
set_option Elab.async false
set_option maxRecDepth 100000
set_option maxHeartbeats 8000000
set_option linter.unusedSimpArgs false
namespace Mine
theorem b_len_obj (σ : St) (i : Nat) : biV σ (.builtin "len") [.obj i] = match σ[i]? with | some (.dict es) => some (.int es.length) | some (.list l) => some (.int l.length) | _ => none := by rfl
theorem c_bool (σ : St) (x y : Bool) : cmpV σ .Eq (.bool x) (.bool y) = some (decide (x = y)) := by cases x <;> cases y <;> kernel_rfl
theorem c_t3 (σ : St) (a b c a' b' c' : Int) : cmpV σ .Eq (.tup [.int a, .int b, .int c]) (.tup [.int a', .int b', .int c']) = some (decide (a = a') && (decide (b = b') && decide (c = c'))) := by
  have h1 : SeqAt.shaped (.tuple [.int a, .int b, .int c]) = true := by rfl
  have h2 : SeqAt.shaped (.tuple [.int a', .int b', .int c']) = true := by rfl
  simp only [cmpV, pd, pds, h1, h2]
  simp [PyData.eqv, PyData.eqvAll]
  rfl
def isSt : Expr → Bool
  | .Starred .. => true
  | _ => false
theorem pos_name (x : Str) (p : Pos) : (Expr.Name x p).pos = p := rfl
theorem swap2 (sc : Scope) (x y : Str) (p q r : Pos) (e f : Expr) (k : Nat) (h1 : sc.names.lookup x = some .local) (h2 : sc.names.lookup y = some .local) (hl : q.line = p.line) (hx : (y == x) = false) (f1 : foldedForSure 8 e = false) (f2 : constantsAlone 8 f = false)
    (s1 : isSt e = false) (s2 : isSt f = false) : swapS sc [.Name x p, .Name y q] (.Tuple [e, f] k r) = some (some [x, y]) := by
  unfold swapS
  simp [h1, h2, hl, f1, f2, List.eraseDups_cons, hx, pos_name]
  exact ⟨s1, s2⟩
theorem swap3 (sc : Scope) (x y z : Str) (p q r t : Pos) (e f g : Expr) (k : Nat) (h1 : sc.names.lookup x = some .local) (h2 : sc.names.lookup y = some .local) (h3 : sc.names.lookup z = some .local) (hl : q.line = p.line) (hm : r.line = p.line) (hx : (y == x) = false) (hy : (z == x) = false) (hz : (z == y) = false) (f1 : foldedForSure 8 e = false) (f2 : constantsAlone 8 f = false)
    (s1 : isSt e = false) (s2 : isSt f = false) (s3 : isSt g = false) : swapS sc [.Name x p, .Name y q, .Name z r] (.Tuple [e, f, g] k t) = some (some [x, y, z]) := by
  unfold swapS
  simp [h1, h2, h3, hl, hm, f1, f2, List.eraseDups_cons, hx, hy, hz, pos_name]
  exact ⟨s1, s2, s3⟩
theorem st_sub (a b : Expr) (p : Pos) : isSt (.Subscript a b p) = false := by have h : isSt (.Subscript a b p) = false := rfl; rw [h]
theorem st_call (a : Expr) (b : List Expr) (c : List Keyword) (p : Pos) : isSt (.Call a b c p) = false := by have h : isSt (.Call a b c p) = false := rfl; rw [h]
theorem st_list (a : List Expr) (p : Pos) : isSt (.List a p) = false := by have h : isSt (.List a p) = false := rfl; rw [h]
theorem st_if (a b c : Expr) (p : Pos) : isSt (.IfExp a b c p) = false := by have h : isSt (.IfExp a b c p) = false := rfl; rw [h]
theorem st_name (a : Str) (p : Pos) : isSt (.Name a p) = false := by have h : isSt (.Name a p) = false := rfl; rw [h]
theorem fo_sub (k : Nat) (a b : Expr) (p : Pos) : foldedForSure k (.Subscript a b p) = false := by cases k <;> rfl
theorem fo_call (k : Nat) (a : Expr) (b : List Expr) (c : List Keyword) (p : Pos) : foldedForSure k (.Call a b c p) = false := by cases k <;> rfl
theorem fo_list (k : Nat) (a : List Expr) (p : Pos) : foldedForSure k (.List a p) = false := by cases k <;> rfl
theorem co_if (k : Nat) (a b c : Expr) (p : Pos) : constantsAlone k (.IfExp a b c p) = false := by cases k <;> rfl
theorem co_call (k : Nat) (a : Expr) (b : List Expr) (c : List Keyword) (p : Pos) : constantsAlone k (.Call a b c p) = false := by cases k <;> rfl
theorem co_name (k : Nat) (x : String) (p : Pos) (h : x ≠ "__debug__") : constantsAlone k (.Name (Str.ofString x) p) = false := by
  have e : (Str.ofString x == Str.ofString "__debug__") = false := by rw [ofs_beq]; exact decide_eq_false h
  cases k <;> exact e
theorem co_sub (x : String) (p q : Pos) (s : Expr) (h : x ≠ "__debug__") : constantsAlone 8 (.Subscript (.Name (Str.ofString x) p) s q) = false := by
  show (constantsAlone 7 _ && _) = false
  rw [co_name _ _ _ h]; rfl
noncomputable def nmK (sc : Scope) (x : Str) : Nat := match x == ("__debug__" : Str) with
  | true => 2
  | false => match sc.names.lookup x with
    | some .globalImplicit => 1
    | some .local => 0
    | some .cell => 0
    | some .free => match x == ("__classdict__" : Str) with
      | true => 2
      | false => 0
    | _ => 2
theorem nm_l {sc : Scope} {ρ : Rho} {x : Str} (h : nmK sc x = 0) : nm sc ρ x = ρ x := by
  unfold nmK at h
  unfold nm
  split <;> simp_all
  split <;> simp_all
  split <;> simp_all
theorem nm_g {sc : Scope} {ρ : Rho} {x : Str} (h : nmK sc x = 1) : nm sc ρ x = gl x := by
  unfold nmK at h
  unfold nm
  split <;> simp_all
  split <;> simp_all
  split at h <;> simp_all
theorem put_s (ρ : Rho) (x : Str) (v : V) : Rho.put ρ x v x = some v := if_pos rfl
theorem put_n (ρ : Rho) {x y : Str} (v : V) (h : decide (y = x) = false) : Rho.put ρ x v y = ρ y := if_neg (of_decide_eq_false h)
theorem binds_s (x : Str) (a : Option Expr) (q : Pos) (ps : List Arg) (v : V) (vs : List V) : binds (⟨x, a, q⟩ :: ps) (v :: vs) x = some v := if_pos rfl
theorem binds_n {x y : Str} (a : Option Expr) (q : Pos) (ps : List Arg) (v : V) (vs : List V) (h : decide (x = y) = false) : binds (⟨x, a, q⟩ :: ps) (v :: vs) y = binds ps vs y := if_neg (of_decide_eq_false h)
theorem w_name {C : Oracle} {x : Str} {p : Pos} {v : V} {sc : Scope} {ρ : Rho} {σ : St} (h : (sc.names.lookup x == some .local || sc.names.lookup x == some .cell) = true) : evW C (.Name x p) v sc ρ σ = some (ρ.put x v, σ) := by
  rw [evW]
  rcases Bool.or_eq_true_iff.mp h with h | h <;> rw [eq_of_beq h]
theorem mut_f {p : Pos} (h : mutAt p = false) : mutAt p = false := h
theorem mut_t {p : Pos} (h : mutAt p = true) : mutAt p = true := h
theorem base_t {e : Expr} (h : baseOk e = true) : baseOk e = true := h
theorem comp_t {cs sc : Scope} {x : Str} (h : compOk cs sc x = true) : compOk cs sc x = true := h
theorem inner_s (sc : Scope) (ρ : Rho) (x : Str) (v : V) : inner sc ρ x v x = some v := if_pos rfl
theorem inner_f {sc : Scope} (ρ : Rho) {x y : Str} (v : V) (h : (!(decide (y = x)) && sc.names.lookup y == some .free) = true) : inner sc ρ x v y = ρ y := by
  rw [Bool.and_eq_true, Bool.not_eq_true'] at h
  unfold inner
  rw [if_neg (of_decide_eq_false h.1), eq_of_beq h.2]
theorem lk_talk {l : List (Str × NameKind)} (h : (List.lookup (Str.ofString "talk") l == some NameKind.local) = true) : List.lookup (Str.ofString "talk") l = some .local := eq_of_beq h
theorem lam_t {ps : Arguments} {b : Expr} {l : Scope} (h : lamB ps b l = true) : lamB ps b l = true := h
theorem aput_0 (x : Str) (v : V) : aput [] x v = [(x, v)] := by unfold aput; exact id rfl
theorem aput_s (x : Str) (u v : V) (r : List (Str × V)) : aput ((x, u) :: r) x v = (x, v) :: r := by unfold aput; rw [if_pos rfl]
theorem aput_n {x y : Str} (u v : V) (r : List (Str × V)) (h : decide (y = x) = false) : aput ((y, u) :: r) x v = (y, u) :: aput r x v := by
  rw [aput, if_neg (of_decide_eq_false h)]
end Mine

end
section
open PySem PySem.W PyProof.Rows
set_option Elab.async false
set_option maxRecDepth 100000
set_option maxHeartbeats 8000000
set_option linter.unusedSimpArgs false
namespace Mine
structure Own (F : List (Str × V) → List (List Int × V) → St) (i j : Nat) : Prop where
  gi : ∀ A R, (F A R)[i]? = some (.inst A)
  si : ∀ A R B, (F A R).set i (.inst B) = F B R
  gj : ∀ A R, (F A R)[j]? = some (.dict R)
  sj : ∀ A R Q, (F A R).set j (.dict Q) = F A Q
abbrev pk (b s : Int) (t : List V) : V := .tup [.str (Str.ofString "dd"), .int 1500, .int 2, .int b, .int s, .tup t]
def bts (m : Bool) (d : List V) : Int := match m, d with
  | false, [] => 0 | true, [] => 1 | false, _ => 2 | true, _ => 3
abbrev hdv (x : Int) : V := .tup [.int 1, .int 2, .int 1, .int 0, .int x, .int 1, .int 7]
def ent (x : Int) : List Int × V := ([1, 0, x], hdv x)
def Ret (C : Oracle) (b : List Stmt) (sc : Scope) (ρ : Rho) (σ : St) (v : V) (σ' : St) : Prop := ∃ ρ', evB C b sc ρ σ = some (.ret v, ρ', σ')
theorem callN_ret {K : Frag} {n f : Nat} {vs : List V} {σ : St} {fd : FuncData} {b : List Stmt} {v : V} {σ' : St} (h : fdOf K f = some fd) (hb : fd.body = .stmts b) (hf : (fns.contains f && decide (fd.params.args.length = vs.length)) = true)
    (k : Ret (callN K n) b fd.scope (binds fd.params.args vs) σ v σ') : callN K (n + 1) f vs σ = some (v, σ') := by
  obtain ⟨ρ', e⟩ := k
  rw [callN_at h hb hf, e]
theorem Ret_same {C : Oracle} {s : Stmt} {r : List Stmt} {sc : Scope} {ρ : Rho} {σ σ₁ σ' : St} {v : V} (h : evS C s sc ρ σ = some (.next, ρ, σ₁)) (k : Ret C r sc ρ σ₁ v σ') : Ret C (s :: r) sc ρ σ v σ' := by
  obtain ⟨ρ', e⟩ := k
  exact ⟨ρ', by rw [evB, h]; exact e⟩
theorem Ret_put {C : Oracle} {s : Stmt} {r : List Stmt} {sc : Scope} {ρ : Rho} {σ σ' : St} {v : V} (x : Str) (u : V) (σ₁ : St) (h : evS C s sc ρ σ = some (.next, ρ.put x u, σ₁)) (k : Ret C r sc (ρ.put x u) σ₁ v σ') : Ret C (s :: r) sc ρ σ v σ' := by
  obtain ⟨ρ', e⟩ := k
  exact ⟨ρ', by rw [evB, h]; exact e⟩
theorem Ret_end {C : Oracle} {r : List Stmt} {sc : Scope} {ρ : Rho} {σ σ' : St} {v : V} (h : evB C r sc ρ σ = some (.ret v, ρ, σ')) : Ret C r sc ρ σ v σ' := ⟨ρ, h⟩
theorem t28 (P : Params) (n : Nat) (x : Int) (σ : St) : callN (hd.heap_1 P) (n + 1) 28 [hdv x, .bool false] σ = some (.str (Str.ofString ""), σ) := by
  rw [callN_at (fd := _) rfl rfl rfl]
  simp (disch := first | assumption | decide +kernel | (simp [n_add, itemV, natOf]; done) | fail) [↓lam_t, ↓lk_talk, ↓nm_l, ↓nm_g, ↓put_s, ↓put_n, ↓binds_s, ↓binds_n, ↓w_name, ↓mut_f, ↓mut_t, ↓base_t, evB, evS, evE, evEs, evP, evO, evT, evA, evW, evWs, truth, natOf, itemV, tk_len, swap_na, noTop, itemsV, intsV, g_mtu, g_options, g_portion, g_is_master, g_seq, g_left, g_sent, g_own, g_other, g_stage, g_met, g_requests, a_mtu, a_options, a_portion, a_is_master, a_seq, a_left, a_sent, a_own, a_other, a_stage, a_met, a_requests, u_is_master, u_seq, u_left, u_sent, u_stage, u_met, u_requests, n_begin, n_take, n_is_double, n_is_wrong, n_take_first, n_take_next, n_led, n_followed, n_ended, n_first, n_next_packet, n_has_told_all, m_begin, m_take, m_is_double, m_is_wrong, m_take_first, m_take_next, m_led, m_followed, m_ended, m_first, m_next_packet, m_has_told_all, glDescribing, glMASTER, glMORE, glINIT, glNUMBERS, glEXTERNAL, glGREATEST_KIND, glbarred, glkey_of, glExchange, gl_law_take, gl_law_heads, gl_law_is_mismatch, gllen, glabs, glsorted, gltuple, gllist, glrange, b_len_tup, b_len_lst, b_len_obj, b_abs, b_tuple, b_list, c_lt, c_gt, c_le, c_ge, c_eq, c_ne, c_bool, c_is0, c_is1, c_isn0, c_isn1, c_t3, n_and, n_or, n_add, n_sub, n_mod, n_cat, cut_hi, cut_lo, cut_25, c_Eq_exchange_exstart, c_Eq_exstart_exstart, c_Eq_exchange_exchange, c_Eq_full_full, c_Eq_loading_full, c_Eq__, c_Eq_loading_exchange, c_Eq_loading_exstart, c_NotEq_exchange_exstart, c_NotEq_exstart_exstart, c_NotEq_exchange_exchange, c_NotEq_full_full, c_NotEq_loading_full, c_NotEq__, c_NotEq_loading_exchange, c_NotEq_loading_exstart, hdv]
theorem t43 (P : Params) (n : Nat) (x : Int) (σ : St) : callN (hd.heap_1 P) (n + 1) 43 [hdv x] σ = some (keyV [1, 0, x], σ) := by
  rw [callN_at (fd := _) rfl rfl rfl]
  simp (disch := first | assumption | decide +kernel | (simp [n_add, itemV, natOf]; done) | fail) [↓lam_t, ↓lk_talk, ↓nm_l, ↓nm_g, ↓put_s, ↓put_n, ↓binds_s, ↓binds_n, ↓w_name, ↓mut_f, ↓mut_t, ↓base_t, evB, evS, evE, evEs, evP, evO, evT, evA, evW, evWs, truth, natOf, itemV, tk_len, swap_na, noTop, itemsV, intsV, g_mtu, g_options, g_portion, g_is_master, g_seq, g_left, g_sent, g_own, g_other, g_stage, g_met, g_requests, a_mtu, a_options, a_portion, a_is_master, a_seq, a_left, a_sent, a_own, a_other, a_stage, a_met, a_requests, u_is_master, u_seq, u_left, u_sent, u_stage, u_met, u_requests, n_begin, n_take, n_is_double, n_is_wrong, n_take_first, n_take_next, n_led, n_followed, n_ended, n_first, n_next_packet, n_has_told_all, m_begin, m_take, m_is_double, m_is_wrong, m_take_first, m_take_next, m_led, m_followed, m_ended, m_first, m_next_packet, m_has_told_all, glDescribing, glMASTER, glMORE, glINIT, glNUMBERS, glEXTERNAL, glGREATEST_KIND, glbarred, glkey_of, glExchange, gl_law_take, gl_law_heads, gl_law_is_mismatch, gllen, glabs, glsorted, gltuple, gllist, glrange, b_len_tup, b_len_lst, b_len_obj, b_abs, b_tuple, b_list, c_lt, c_gt, c_le, c_ge, c_eq, c_ne, c_bool, c_is0, c_is1, c_isn0, c_isn1, c_t3, n_and, n_or, n_add, n_sub, n_mod, n_cat, cut_hi, cut_lo, cut_25, c_Eq_exchange_exstart, c_Eq_exstart_exstart, c_Eq_exchange_exchange, c_Eq_full_full, c_Eq_loading_full, c_Eq__, c_Eq_loading_exchange, c_Eq_loading_exstart, c_NotEq_exchange_exstart, c_NotEq_exstart_exstart, c_NotEq_exchange_exchange, c_NotEq_full_full, c_NotEq_loading_full, c_NotEq__, c_NotEq_loading_exchange, c_NotEq_loading_exstart, hdv, keyV]
section
variable {F : List (Str × V) → List (List Int × V) → St} {i j : Nat} (O : Own F i j) (P : Params) (n : Nat)
  {p : Nat} {m : Bool} {s : Int} {l : List V} {st : V} {own other : Int} {stage : String} {met : V} {rq : Nat} {R : List (List Int × V)}
include O
theorem t71 (d t : List V) (qd : l.drop p = d) (qt : l.take p = t) :
   callN (hd.heap_1 P) (n + 1) 71 [.obj i] (F (tk p m s l st own other stage met rq) R) = some (pk (bts m d) s t, F (tk p m s d (pk (bts m d) s t) own other stage met rq) R) := by
  have h0 : Builtin.bitOr 0 0 = 0 := by decide
  have h1 : Builtin.bitOr 0 2 = 2 := by decide
  have h2 : Builtin.bitOr 1 0 = 1 := by decide
  have h3 : Builtin.bitOr 1 2 = 3 := by decide
  refine callN_ret (fd := _) rfl rfl rfl ?_
  refine Ret_put (Str.ofString "told") (.tup t) (F (tk p m s d st own other stage met rq) R) ?_ ?_
  · simp (disch := first | assumption | decide +kernel | (simp [n_add, itemV, natOf]; done) | fail) [↓lam_t, ↓lk_talk, ↓nm_l, ↓nm_g, ↓put_s, ↓put_n, ↓binds_s, ↓binds_n, ↓w_name, ↓mut_f, ↓mut_t, ↓base_t, evB, evS, evE, evEs, evP, evO, evT, evA, evW, evWs, truth, natOf, itemV, tk_len, swap_na, noTop, itemsV, intsV, g_mtu, g_options, g_portion, g_is_master, g_seq, g_left, g_sent, g_own, g_other, g_stage, g_met, g_requests, a_mtu, a_options, a_portion, a_is_master, a_seq, a_left, a_sent, a_own, a_other, a_stage, a_met, a_requests, u_is_master, u_seq, u_left, u_sent, u_stage, u_met, u_requests, n_begin, n_take, n_is_double, n_is_wrong, n_take_first, n_take_next, n_led, n_followed, n_ended, n_first, n_next_packet, n_has_told_all, m_begin, m_take, m_is_double, m_is_wrong, m_take_first, m_take_next, m_led, m_followed, m_ended, m_first, m_next_packet, m_has_told_all, glDescribing, glMASTER, glMORE, glINIT, glNUMBERS, glEXTERNAL, glGREATEST_KIND, glbarred, glkey_of, glExchange, gl_law_take, gl_law_heads, gl_law_is_mismatch, gllen, glabs, glsorted, gltuple, gllist, glrange, b_len_tup, b_len_lst, b_len_obj, b_abs, b_tuple, b_list, c_lt, c_gt, c_le, c_ge, c_eq, c_ne, c_bool, c_is0, c_is1, c_isn0, c_isn1, c_t3, n_and, n_or, n_add, n_sub, n_mod, n_cat, cut_hi, cut_lo, cut_25, c_Eq_exchange_exstart, c_Eq_exstart_exstart, c_Eq_exchange_exchange, c_Eq_full_full, c_Eq_loading_full, c_Eq__, c_Eq_loading_exchange, c_Eq_loading_exstart, c_NotEq_exchange_exstart, c_NotEq_exstart_exstart, c_NotEq_exchange_exchange, c_NotEq_full_full, c_NotEq_loading_full, c_NotEq__, c_NotEq_loading_exchange, c_NotEq_loading_exstart, O.gi, O.si, qd, qt]
  refine Ret_put (Str.ofString "bits") (.int (bts m d)) (F (tk p m s d st own other stage met rq) R) ?_ ?_
  · cases d <;> cases m <;> simp (disch := first | assumption | decide +kernel | (simp [n_add, itemV, natOf]; done) | fail) [↓lam_t, ↓lk_talk, ↓nm_l, ↓nm_g, ↓put_s, ↓put_n, ↓binds_s, ↓binds_n, ↓w_name, ↓mut_f, ↓mut_t, ↓base_t, evB, evS, evE, evEs, evP, evO, evT, evA, evW, evWs, truth, natOf, itemV, tk_len, swap_na, noTop, itemsV, intsV, g_mtu, g_options, g_portion, g_is_master, g_seq, g_left, g_sent, g_own, g_other, g_stage, g_met, g_requests, a_mtu, a_options, a_portion, a_is_master, a_seq, a_left, a_sent, a_own, a_other, a_stage, a_met, a_requests, u_is_master, u_seq, u_left, u_sent, u_stage, u_met, u_requests, n_begin, n_take, n_is_double, n_is_wrong, n_take_first, n_take_next, n_led, n_followed, n_ended, n_first, n_next_packet, n_has_told_all, m_begin, m_take, m_is_double, m_is_wrong, m_take_first, m_take_next, m_led, m_followed, m_ended, m_first, m_next_packet, m_has_told_all, glDescribing, glMASTER, glMORE, glINIT, glNUMBERS, glEXTERNAL, glGREATEST_KIND, glbarred, glkey_of, glExchange, gl_law_take, gl_law_heads, gl_law_is_mismatch, gllen, glabs, glsorted, gltuple, gllist, glrange, b_len_tup, b_len_lst, b_len_obj, b_abs, b_tuple, b_list, c_lt, c_gt, c_le, c_ge, c_eq, c_ne, c_bool, c_is0, c_is1, c_isn0, c_isn1, c_t3, n_and, n_or, n_add, n_sub, n_mod, n_cat, cut_hi, cut_lo, cut_25, c_Eq_exchange_exstart, c_Eq_exstart_exstart, c_Eq_exchange_exchange, c_Eq_full_full, c_Eq_loading_full, c_Eq__, c_Eq_loading_exchange, c_Eq_loading_exstart, c_NotEq_exchange_exstart, c_NotEq_exstart_exstart, c_NotEq_exchange_exchange, c_NotEq_full_full, c_NotEq_loading_full, c_NotEq__, c_NotEq_loading_exchange, c_NotEq_loading_exstart, O.gi, O.si, bts, h0, h1, h2, h3]
  refine Ret_end ?_
  simp (disch := first | assumption | decide +kernel | (simp [n_add, itemV, natOf]; done) | fail) [↓lam_t, ↓lk_talk, ↓nm_l, ↓nm_g, ↓put_s, ↓put_n, ↓binds_s, ↓binds_n, ↓w_name, ↓mut_f, ↓mut_t, ↓base_t, evB, evS, evE, evEs, evP, evO, evT, evA, evW, evWs, truth, natOf, itemV, tk_len, swap_na, noTop, itemsV, intsV, g_mtu, g_options, g_portion, g_is_master, g_seq, g_left, g_sent, g_own, g_other, g_stage, g_met, g_requests, a_mtu, a_options, a_portion, a_is_master, a_seq, a_left, a_sent, a_own, a_other, a_stage, a_met, a_requests, u_is_master, u_seq, u_left, u_sent, u_stage, u_met, u_requests, n_begin, n_take, n_is_double, n_is_wrong, n_take_first, n_take_next, n_led, n_followed, n_ended, n_first, n_next_packet, n_has_told_all, m_begin, m_take, m_is_double, m_is_wrong, m_take_first, m_take_next, m_led, m_followed, m_ended, m_first, m_next_packet, m_has_told_all, glDescribing, glMASTER, glMORE, glINIT, glNUMBERS, glEXTERNAL, glGREATEST_KIND, glbarred, glkey_of, glExchange, gl_law_take, gl_law_heads, gl_law_is_mismatch, gllen, glabs, glsorted, gltuple, gllist, glrange, b_len_tup, b_len_lst, b_len_obj, b_abs, b_tuple, b_list, c_lt, c_gt, c_le, c_ge, c_eq, c_ne, c_bool, c_is0, c_is1, c_isn0, c_isn1, c_t3, n_and, n_or, n_add, n_sub, n_mod, n_cat, cut_hi, cut_lo, cut_25, c_Eq_exchange_exstart, c_Eq_exstart_exstart, c_Eq_exchange_exchange, c_Eq_full_full, c_Eq_loading_full, c_Eq__, c_Eq_loading_exchange, c_Eq_loading_exstart, c_NotEq_exchange_exstart, c_NotEq_exstart_exstart, c_NotEq_exchange_exchange, c_NotEq_full_full, c_NotEq_loading_full, c_NotEq__, c_NotEq_loading_exchange, c_NotEq_loading_exstart, O.gi, O.si, pk]
theorem t78 (b s' : Int) (t : List V) :
   callN (hd.heap_1 P) (n + 1) 78 [.obj i] (F (tk p m s l (pk b s' t) own other stage met rq) R) = some (.bool (decide (Builtin.bitAnd b 2 = 0)), F (tk p m s l (pk b s' t) own other stage met rq) R) := by
  rw [callN_at (fd := _) rfl rfl rfl]
  simp (disch := first | assumption | decide +kernel | (simp [n_add, itemV, natOf]; done) | fail) [↓lam_t, ↓lk_talk, ↓nm_l, ↓nm_g, ↓put_s, ↓put_n, ↓binds_s, ↓binds_n, ↓w_name, ↓mut_f, ↓mut_t, ↓base_t, evB, evS, evE, evEs, evP, evO, evT, evA, evW, evWs, truth, natOf, itemV, tk_len, swap_na, noTop, itemsV, intsV, g_mtu, g_options, g_portion, g_is_master, g_seq, g_left, g_sent, g_own, g_other, g_stage, g_met, g_requests, a_mtu, a_options, a_portion, a_is_master, a_seq, a_left, a_sent, a_own, a_other, a_stage, a_met, a_requests, u_is_master, u_seq, u_left, u_sent, u_stage, u_met, u_requests, n_begin, n_take, n_is_double, n_is_wrong, n_take_first, n_take_next, n_led, n_followed, n_ended, n_first, n_next_packet, n_has_told_all, m_begin, m_take, m_is_double, m_is_wrong, m_take_first, m_take_next, m_led, m_followed, m_ended, m_first, m_next_packet, m_has_told_all, glDescribing, glMASTER, glMORE, glINIT, glNUMBERS, glEXTERNAL, glGREATEST_KIND, glbarred, glkey_of, glExchange, gl_law_take, gl_law_heads, gl_law_is_mismatch, gllen, glabs, glsorted, gltuple, gllist, glrange, b_len_tup, b_len_lst, b_len_obj, b_abs, b_tuple, b_list, c_lt, c_gt, c_le, c_ge, c_eq, c_ne, c_bool, c_is0, c_is1, c_isn0, c_isn1, c_t3, n_and, n_or, n_add, n_sub, n_mod, n_cat, cut_hi, cut_lo, cut_25, c_Eq_exchange_exstart, c_Eq_exstart_exstart, c_Eq_exchange_exchange, c_Eq_full_full, c_Eq_loading_full, c_Eq__, c_Eq_loading_exchange, c_Eq_loading_exstart, c_NotEq_exchange_exstart, c_NotEq_exstart_exstart, c_NotEq_exchange_exchange, c_NotEq_full_full, c_NotEq_loading_full, c_NotEq__, c_NotEq_loading_exchange, c_NotEq_loading_exstart, O.gi, O.si, O.gj, O.sj, pk]
theorem t120n (x : V) :
   callN (hd.heap_1 P) (n + 1) 120 [.obj i, x] (F (tk p m s l st own other stage .none rq) R) = some (.bool false, F (tk p m s l st own other stage .none rq) R) := by
  rw [callN_at (fd := _) rfl rfl rfl]
  simp (disch := first | assumption | decide +kernel | (simp [n_add, itemV, natOf]; done) | fail) [↓lam_t, ↓lk_talk, ↓nm_l, ↓nm_g, ↓put_s, ↓put_n, ↓binds_s, ↓binds_n, ↓w_name, ↓mut_f, ↓mut_t, ↓base_t, evB, evS, evE, evEs, evP, evO, evT, evA, evW, evWs, truth, natOf, itemV, tk_len, swap_na, noTop, itemsV, intsV, g_mtu, g_options, g_portion, g_is_master, g_seq, g_left, g_sent, g_own, g_other, g_stage, g_met, g_requests, a_mtu, a_options, a_portion, a_is_master, a_seq, a_left, a_sent, a_own, a_other, a_stage, a_met, a_requests, u_is_master, u_seq, u_left, u_sent, u_stage, u_met, u_requests, n_begin, n_take, n_is_double, n_is_wrong, n_take_first, n_take_next, n_led, n_followed, n_ended, n_first, n_next_packet, n_has_told_all, m_begin, m_take, m_is_double, m_is_wrong, m_take_first, m_take_next, m_led, m_followed, m_ended, m_first, m_next_packet, m_has_told_all, glDescribing, glMASTER, glMORE, glINIT, glNUMBERS, glEXTERNAL, glGREATEST_KIND, glbarred, glkey_of, glExchange, gl_law_take, gl_law_heads, gl_law_is_mismatch, gllen, glabs, glsorted, gltuple, gllist, glrange, b_len_tup, b_len_lst, b_len_obj, b_abs, b_tuple, b_list, c_lt, c_gt, c_le, c_ge, c_eq, c_ne, c_bool, c_is0, c_is1, c_isn0, c_isn1, c_t3, n_and, n_or, n_add, n_sub, n_mod, n_cat, cut_hi, cut_lo, cut_25, c_Eq_exchange_exstart, c_Eq_exstart_exstart, c_Eq_exchange_exchange, c_Eq_full_full, c_Eq_loading_full, c_Eq__, c_Eq_loading_exchange, c_Eq_loading_exstart, c_NotEq_exchange_exstart, c_NotEq_exstart_exstart, c_NotEq_exchange_exchange, c_NotEq_full_full, c_NotEq_loading_full, c_NotEq__, c_NotEq_loading_exchange, c_NotEq_loading_exstart, O.gi, O.si, O.gj, O.sj, pk]
theorem t120 (b s₁ b' s₂ : Int) (t t' : List V) (h : s₁ ≠ s₂) :
   callN (hd.heap_1 P) (n + 1) 120 [.obj i, pk b s₁ t] (F (tk p m s l st own other stage (pk b' s₂ t') rq) R) = some (.bool false, F (tk p m s l st own other stage (pk b' s₂ t') rq) R) := by
  rw [callN_at (fd := _) rfl rfl rfl]
  simp (disch := first | assumption | decide +kernel | (simp [n_add, itemV, natOf]; done) | fail) [↓lam_t, ↓lk_talk, ↓nm_l, ↓nm_g, ↓put_s, ↓put_n, ↓binds_s, ↓binds_n, ↓w_name, ↓mut_f, ↓mut_t, ↓base_t, evB, evS, evE, evEs, evP, evO, evT, evA, evW, evWs, truth, natOf, itemV, tk_len, swap_na, noTop, itemsV, intsV, g_mtu, g_options, g_portion, g_is_master, g_seq, g_left, g_sent, g_own, g_other, g_stage, g_met, g_requests, a_mtu, a_options, a_portion, a_is_master, a_seq, a_left, a_sent, a_own, a_other, a_stage, a_met, a_requests, u_is_master, u_seq, u_left, u_sent, u_stage, u_met, u_requests, n_begin, n_take, n_is_double, n_is_wrong, n_take_first, n_take_next, n_led, n_followed, n_ended, n_first, n_next_packet, n_has_told_all, m_begin, m_take, m_is_double, m_is_wrong, m_take_first, m_take_next, m_led, m_followed, m_ended, m_first, m_next_packet, m_has_told_all, glDescribing, glMASTER, glMORE, glINIT, glNUMBERS, glEXTERNAL, glGREATEST_KIND, glbarred, glkey_of, glExchange, gl_law_take, gl_law_heads, gl_law_is_mismatch, gllen, glabs, glsorted, gltuple, gllist, glrange, b_len_tup, b_len_lst, b_len_obj, b_abs, b_tuple, b_list, c_lt, c_gt, c_le, c_ge, c_eq, c_ne, c_bool, c_is0, c_is1, c_isn0, c_isn1, c_t3, n_and, n_or, n_add, n_sub, n_mod, n_cat, cut_hi, cut_lo, cut_25, c_Eq_exchange_exstart, c_Eq_exstart_exstart, c_Eq_exchange_exchange, c_Eq_full_full, c_Eq_loading_full, c_Eq__, c_Eq_loading_exchange, c_Eq_loading_exstart, c_NotEq_exchange_exstart, c_NotEq_exstart_exstart, c_NotEq_exchange_exchange, c_NotEq_full_full, c_NotEq_loading_full, c_NotEq__, c_NotEq_loading_exchange, c_NotEq_loading_exstart, O.gi, O.si, O.gj, O.sj, pk, h]
theorem t162 (e : List Int × V) (R' : List (List Int × V)) :
   callN (hd.heap_1 P) (n + 1) 162 [.obj i] (F (tk p m s l st own other stage met j) (e :: R')) = some (.lst [.str (Str.ofString "exchanged")], F (tk p m s l st own other "loading" met j) (e :: R')) := by
  rw [callN_at (fd := _) rfl rfl rfl]
  simp (disch := first | assumption | decide +kernel | (simp [n_add, itemV, natOf]; done) | fail) [↓lam_t, ↓lk_talk, ↓nm_l, ↓nm_g, ↓put_s, ↓put_n, ↓binds_s, ↓binds_n, ↓w_name, ↓mut_f, ↓mut_t, ↓base_t, evB, evS, evE, evEs, evP, evO, evT, evA, evW, evWs, truth, natOf, itemV, tk_len, swap_na, noTop, itemsV, intsV, g_mtu, g_options, g_portion, g_is_master, g_seq, g_left, g_sent, g_own, g_other, g_stage, g_met, g_requests, a_mtu, a_options, a_portion, a_is_master, a_seq, a_left, a_sent, a_own, a_other, a_stage, a_met, a_requests, u_is_master, u_seq, u_left, u_sent, u_stage, u_met, u_requests, n_begin, n_take, n_is_double, n_is_wrong, n_take_first, n_take_next, n_led, n_followed, n_ended, n_first, n_next_packet, n_has_told_all, m_begin, m_take, m_is_double, m_is_wrong, m_take_first, m_take_next, m_led, m_followed, m_ended, m_first, m_next_packet, m_has_told_all, glDescribing, glMASTER, glMORE, glINIT, glNUMBERS, glEXTERNAL, glGREATEST_KIND, glbarred, glkey_of, glExchange, gl_law_take, gl_law_heads, gl_law_is_mismatch, gllen, glabs, glsorted, gltuple, gllist, glrange, b_len_tup, b_len_lst, b_len_obj, b_abs, b_tuple, b_list, c_lt, c_gt, c_le, c_ge, c_eq, c_ne, c_bool, c_is0, c_is1, c_isn0, c_isn1, c_t3, n_and, n_or, n_add, n_sub, n_mod, n_cat, cut_hi, cut_lo, cut_25, c_Eq_exchange_exstart, c_Eq_exstart_exstart, c_Eq_exchange_exchange, c_Eq_full_full, c_Eq_loading_full, c_Eq__, c_Eq_loading_exchange, c_Eq_loading_exstart, c_NotEq_exchange_exstart, c_NotEq_exstart_exstart, c_NotEq_exchange_exchange, c_NotEq_full_full, c_NotEq_loading_full, c_NotEq__, c_NotEq_loading_exchange, c_NotEq_loading_exstart, O.gi, O.si, O.gj, O.sj, lcap]
theorem t127h (b b' s' : Int) (t t' : List V) (hb : b = 0 ∨ b = 2) :
   callN (hd.heap_1 P) (n + 1) 127 [.obj i, pk b s t] (F (tk p true s l st own other stage (pk b' s' t') rq) R) = some (.bool false, F (tk p true s l st own other stage (pk b' s' t') rq) R) := by
  have h4 : Builtin.bitAnd b 4 = 0 := by rcases hb with rfl | rfl <;> decide
  have h1 : Builtin.bitAnd b 1 = 0 := by rcases hb with rfl | rfl <;> decide
  rw [callN_at (fd := _) rfl rfl rfl]
  simp (disch := first | assumption | decide +kernel | (simp [n_add, itemV, natOf]; done) | fail) [↓lam_t, ↓lk_talk, ↓nm_l, ↓nm_g, ↓put_s, ↓put_n, ↓binds_s, ↓binds_n, ↓w_name, ↓mut_f, ↓mut_t, ↓base_t, evB, evS, evE, evEs, evP, evO, evT, evA, evW, evWs, truth, natOf, itemV, tk_len, swap_na, noTop, itemsV, intsV, g_mtu, g_options, g_portion, g_is_master, g_seq, g_left, g_sent, g_own, g_other, g_stage, g_met, g_requests, a_mtu, a_options, a_portion, a_is_master, a_seq, a_left, a_sent, a_own, a_other, a_stage, a_met, a_requests, u_is_master, u_seq, u_left, u_sent, u_stage, u_met, u_requests, n_begin, n_take, n_is_double, n_is_wrong, n_take_first, n_take_next, n_led, n_followed, n_ended, n_first, n_next_packet, n_has_told_all, m_begin, m_take, m_is_double, m_is_wrong, m_take_first, m_take_next, m_led, m_followed, m_ended, m_first, m_next_packet, m_has_told_all, glDescribing, glMASTER, glMORE, glINIT, glNUMBERS, glEXTERNAL, glGREATEST_KIND, glbarred, glkey_of, glExchange, gl_law_take, gl_law_heads, gl_law_is_mismatch, gllen, glabs, glsorted, gltuple, gllist, glrange, b_len_tup, b_len_lst, b_len_obj, b_abs, b_tuple, b_list, c_lt, c_gt, c_le, c_ge, c_eq, c_ne, c_bool, c_is0, c_is1, c_isn0, c_isn1, c_t3, n_and, n_or, n_add, n_sub, n_mod, n_cat, cut_hi, cut_lo, cut_25, c_Eq_exchange_exstart, c_Eq_exstart_exstart, c_Eq_exchange_exchange, c_Eq_full_full, c_Eq_loading_full, c_Eq__, c_Eq_loading_exchange, c_Eq_loading_exstart, c_NotEq_exchange_exstart, c_NotEq_exstart_exstart, c_NotEq_exchange_exchange, c_NotEq_full_full, c_NotEq_loading_full, c_NotEq__, c_NotEq_loading_exchange, c_NotEq_loading_exstart, O.gi, O.si, O.gj, O.sj, pk, swap2, swap3, fo_sub, fo_call, fo_list, co_if, co_call, co_name, co_sub, st_sub, st_call, st_list, st_if, st_name, putAll, h4, h1]
theorem t127l (b b' s' : Int) (t t' : List V) (hb : b = 1 ∨ b = 3) :
   callN (hd.heap_1 P) (n + 1) 127 [.obj i, pk b ((s + 1).fmod 4294967296) t] (F (tk p false s l st own other stage (pk b' s' t') rq) R) = some (.bool false, F (tk p false s l st own other stage (pk b' s' t') rq) R) := by
  have h4 : Builtin.bitAnd b 4 = 0 := by rcases hb with rfl | rfl <;> decide
  have h1 : Builtin.bitAnd b 1 = 1 := by rcases hb with rfl | rfl <;> decide
  rw [callN_at (fd := _) rfl rfl rfl]
  simp (disch := first | assumption | decide +kernel | (simp [n_add, itemV, natOf]; done) | fail) [↓lam_t, ↓lk_talk, ↓nm_l, ↓nm_g, ↓put_s, ↓put_n, ↓binds_s, ↓binds_n, ↓w_name, ↓mut_f, ↓mut_t, ↓base_t, evB, evS, evE, evEs, evP, evO, evT, evA, evW, evWs, truth, natOf, itemV, tk_len, swap_na, noTop, itemsV, intsV, g_mtu, g_options, g_portion, g_is_master, g_seq, g_left, g_sent, g_own, g_other, g_stage, g_met, g_requests, a_mtu, a_options, a_portion, a_is_master, a_seq, a_left, a_sent, a_own, a_other, a_stage, a_met, a_requests, u_is_master, u_seq, u_left, u_sent, u_stage, u_met, u_requests, n_begin, n_take, n_is_double, n_is_wrong, n_take_first, n_take_next, n_led, n_followed, n_ended, n_first, n_next_packet, n_has_told_all, m_begin, m_take, m_is_double, m_is_wrong, m_take_first, m_take_next, m_led, m_followed, m_ended, m_first, m_next_packet, m_has_told_all, glDescribing, glMASTER, glMORE, glINIT, glNUMBERS, glEXTERNAL, glGREATEST_KIND, glbarred, glkey_of, glExchange, gl_law_take, gl_law_heads, gl_law_is_mismatch, gllen, glabs, glsorted, gltuple, gllist, glrange, b_len_tup, b_len_lst, b_len_obj, b_abs, b_tuple, b_list, c_lt, c_gt, c_le, c_ge, c_eq, c_ne, c_bool, c_is0, c_is1, c_isn0, c_isn1, c_t3, n_and, n_or, n_add, n_sub, n_mod, n_cat, cut_hi, cut_lo, cut_25, c_Eq_exchange_exstart, c_Eq_exstart_exstart, c_Eq_exchange_exchange, c_Eq_full_full, c_Eq_loading_full, c_Eq__, c_Eq_loading_exchange, c_Eq_loading_exstart, c_NotEq_exchange_exstart, c_NotEq_exstart_exstart, c_NotEq_exchange_exchange, c_NotEq_full_full, c_NotEq_loading_full, c_NotEq__, c_NotEq_loading_exchange, c_NotEq_loading_exstart, O.gi, O.si, O.gj, O.sj, pk, swap2, swap3, fo_sub, fo_call, fo_list, co_if, co_call, co_name, co_sub, st_sub, st_call, st_list, st_if, st_name, putAll, h4, h1]
end
end Mine

end
section
open PySem PySem.W PyProof.Rows
set_option Elab.async false
set_option maxRecDepth 100000
set_option maxHeartbeats 8000000
set_option linter.unusedSimpArgs false
namespace Mine
theorem bts_and (m : Bool) (d : List V) : (Builtin.bitAnd (bts m d) 2 = 0) = (d = []) := by
  have h0 : Builtin.bitAnd 0 2 = 0 := by decide
  have h1 : Builtin.bitAnd 1 2 = 0 := by decide
  have h2 : ¬ Builtin.bitAnd 2 2 = 0 := by decide
  have h3 : ¬ Builtin.bitAnd 3 2 = 0 := by decide
  cases d <;> cases m <;> simp [bts, h0, h1, h2, h3]
section
variable {F : List (Str × V) → List (List Int × V) → St} {i j : Nat} (O : Own F i j) (P : Params) (n : Nat)
  {p : Nat} {m : Bool} {s : Int} {l : List V} {st : V} {own other : Int} {stage : String} {met : V} {rq : Nat} {R : List (List Int × V)}
include O
theorem t71' : callN (hd.heap_1 P) (n + 1) 71 [.obj i] (F (tk p m s l st own other stage met rq) R) = some (pk (bts m (l.drop p)) s (l.take p), F (tk p m s (l.drop p) (pk (bts m (l.drop p)) s (l.take p)) own other stage met rq) R) := t71 O P n _ _ rfl rfl
theorem t148a (sb ss pb ps : Int) (sl pt ev : List V) (hs : Builtin.bitAnd sb 2 = 0) (hp : Builtin.bitAnd pb 2 = 0) (hev : ev.length < 100) (e : List Int × V) (R' : List (List Int × V)) :
   callN (hd.heap_1 P) (n + 1 + 1) 148 [.obj i, pk pb ps pt, .lst ev] (F (tk p m s l (pk sb ss sl) own other stage met j) (e :: R')) = some (.tup [.lst (ev ++ [.str (Str.ofString "exchanged")]), .lst []], F (tk p m s l (pk sb ss sl) own other "loading" met j) (e :: R')) := by
  rw [callN_at (fd := _) rfl rfl rfl]
  have h1 : ev.length + 1 ≤ 16000 := by omega
  simp (disch := first | assumption | decide +kernel | (simp [n_add, itemV, natOf]; done) | fail) [↓lam_t, ↓lk_talk, ↓nm_l, ↓nm_g, ↓put_s, ↓put_n, ↓binds_s, ↓binds_n, ↓w_name, ↓mut_f, ↓mut_t, ↓base_t, evB, evS, evE, evEs, evP, evO, evT, evA, evW, evWs, truth, natOf, itemV, tk_len, swap_na, noTop, itemsV, intsV, g_mtu, g_options, g_portion, g_is_master, g_seq, g_left, g_sent, g_own, g_other, g_stage, g_met, g_requests, a_mtu, a_options, a_portion, a_is_master, a_seq, a_left, a_sent, a_own, a_other, a_stage, a_met, a_requests, u_is_master, u_seq, u_left, u_sent, u_stage, u_met, u_requests, n_begin, n_take, n_is_double, n_is_wrong, n_take_first, n_take_next, n_led, n_followed, n_ended, n_first, n_next_packet, n_has_told_all, m_begin, m_take, m_is_double, m_is_wrong, m_take_first, m_take_next, m_led, m_followed, m_ended, m_first, m_next_packet, m_has_told_all, glDescribing, glMASTER, glMORE, glINIT, glNUMBERS, glEXTERNAL, glGREATEST_KIND, glbarred, glkey_of, glExchange, gl_law_take, gl_law_heads, gl_law_is_mismatch, gllen, glabs, glsorted, gltuple, gllist, glrange, b_len_tup, b_len_lst, b_len_obj, b_abs, b_tuple, b_list, c_lt, c_gt, c_le, c_ge, c_eq, c_ne, c_bool, c_is0, c_is1, c_isn0, c_isn1, c_t3, n_and, n_or, n_add, n_sub, n_mod, n_cat, cut_hi, cut_lo, cut_25, c_Eq_exchange_exstart, c_Eq_exstart_exstart, c_Eq_exchange_exchange, c_Eq_full_full, c_Eq_loading_full, c_Eq__, c_Eq_loading_exchange, c_Eq_loading_exstart, c_NotEq_exchange_exstart, c_NotEq_exstart_exstart, c_NotEq_exchange_exchange, c_NotEq_full_full, c_NotEq_loading_full, c_NotEq__, c_NotEq_loading_exchange, c_NotEq_loading_exstart, O.gi, O.si, O.gj, O.sj, t78 O, t162 O, hs, hp, lcap, h1]
theorem t148b (sb ss pb ps : Int) (sl pt ev : List V) (h : ¬ (Builtin.bitAnd sb 2 = 0 ∧ Builtin.bitAnd pb 2 = 0)) :
   callN (hd.heap_1 P) (n + 1 + 1) 148 [.obj i, pk pb ps pt, .lst ev] (F (tk p m s l (pk sb ss sl) own other stage met rq) R) = some (.tup [.lst ev, .lst [pk (bts m (l.drop p)) ((s + 1).fmod 4294967296) (l.take p)]], F (tk p m ((s + 1).fmod 4294967296) (l.drop p) (pk (bts m (l.drop p)) ((s + 1).fmod 4294967296) (l.take p)) own other stage met rq) R) := by
  rw [callN_at (fd := _) rfl rfl rfl]
  by_cases hs : Builtin.bitAnd sb 2 = 0
  · have hp : ¬ Builtin.bitAnd pb 2 = 0 := fun q => h ⟨hs, q⟩
    simp (disch := first | assumption | decide +kernel | (simp [n_add, itemV, natOf]; done) | fail) [↓lam_t, ↓lk_talk, ↓nm_l, ↓nm_g, ↓put_s, ↓put_n, ↓binds_s, ↓binds_n, ↓w_name, ↓mut_f, ↓mut_t, ↓base_t, evB, evS, evE, evEs, evP, evO, evT, evA, evW, evWs, truth, natOf, itemV, tk_len, swap_na, noTop, itemsV, intsV, g_mtu, g_options, g_portion, g_is_master, g_seq, g_left, g_sent, g_own, g_other, g_stage, g_met, g_requests, a_mtu, a_options, a_portion, a_is_master, a_seq, a_left, a_sent, a_own, a_other, a_stage, a_met, a_requests, u_is_master, u_seq, u_left, u_sent, u_stage, u_met, u_requests, n_begin, n_take, n_is_double, n_is_wrong, n_take_first, n_take_next, n_led, n_followed, n_ended, n_first, n_next_packet, n_has_told_all, m_begin, m_take, m_is_double, m_is_wrong, m_take_first, m_take_next, m_led, m_followed, m_ended, m_first, m_next_packet, m_has_told_all, glDescribing, glMASTER, glMORE, glINIT, glNUMBERS, glEXTERNAL, glGREATEST_KIND, glbarred, glkey_of, glExchange, gl_law_take, gl_law_heads, gl_law_is_mismatch, gllen, glabs, glsorted, gltuple, gllist, glrange, b_len_tup, b_len_lst, b_len_obj, b_abs, b_tuple, b_list, c_lt, c_gt, c_le, c_ge, c_eq, c_ne, c_bool, c_is0, c_is1, c_isn0, c_isn1, c_t3, n_and, n_or, n_add, n_sub, n_mod, n_cat, cut_hi, cut_lo, cut_25, c_Eq_exchange_exstart, c_Eq_exstart_exstart, c_Eq_exchange_exchange, c_Eq_full_full, c_Eq_loading_full, c_Eq__, c_Eq_loading_exchange, c_Eq_loading_exstart, c_NotEq_exchange_exstart, c_NotEq_exstart_exstart, c_NotEq_exchange_exchange, c_NotEq_full_full, c_NotEq_loading_full, c_NotEq__, c_NotEq_loading_exchange, c_NotEq_loading_exstart, O.gi, O.si, O.gj, O.sj, t78 O, t71' O, hs, hp]
  · simp (disch := first | assumption | decide +kernel | (simp [n_add, itemV, natOf]; done) | fail) [↓lam_t, ↓lk_talk, ↓nm_l, ↓nm_g, ↓put_s, ↓put_n, ↓binds_s, ↓binds_n, ↓w_name, ↓mut_f, ↓mut_t, ↓base_t, evB, evS, evE, evEs, evP, evO, evT, evA, evW, evWs, truth, natOf, itemV, tk_len, swap_na, noTop, itemsV, intsV, g_mtu, g_options, g_portion, g_is_master, g_seq, g_left, g_sent, g_own, g_other, g_stage, g_met, g_requests, a_mtu, a_options, a_portion, a_is_master, a_seq, a_left, a_sent, a_own, a_other, a_stage, a_met, a_requests, u_is_master, u_seq, u_left, u_sent, u_stage, u_met, u_requests, n_begin, n_take, n_is_double, n_is_wrong, n_take_first, n_take_next, n_led, n_followed, n_ended, n_first, n_next_packet, n_has_told_all, m_begin, m_take, m_is_double, m_is_wrong, m_take_first, m_take_next, m_led, m_followed, m_ended, m_first, m_next_packet, m_has_told_all, glDescribing, glMASTER, glMORE, glINIT, glNUMBERS, glEXTERNAL, glGREATEST_KIND, glbarred, glkey_of, glExchange, gl_law_take, gl_law_heads, gl_law_is_mismatch, gllen, glabs, glsorted, gltuple, gllist, glrange, b_len_tup, b_len_lst, b_len_obj, b_abs, b_tuple, b_list, c_lt, c_gt, c_le, c_ge, c_eq, c_ne, c_bool, c_is0, c_is1, c_isn0, c_isn1, c_t3, n_and, n_or, n_add, n_sub, n_mod, n_cat, cut_hi, cut_lo, cut_25, c_Eq_exchange_exstart, c_Eq_exstart_exstart, c_Eq_exchange_exchange, c_Eq_full_full, c_Eq_loading_full, c_Eq__, c_Eq_loading_exchange, c_Eq_loading_exstart, c_NotEq_exchange_exstart, c_NotEq_exstart_exstart, c_NotEq_exchange_exchange, c_NotEq_full_full, c_NotEq_loading_full, c_NotEq__, c_NotEq_loading_exchange, c_NotEq_loading_exstart, O.gi, O.si, O.gj, O.sj, t78 O, t71' O, hs]
theorem t155a (pb ps : Int) (pt ev : List V) (hd0 : l.drop p = []) (hp : Builtin.bitAnd pb 2 = 0) (hev : ev.length < 100) (e : List Int × V) (R' : List (List Int × V)) :
   callN (hd.heap_1 P) (n + 1 + 1) 155 [.obj i, pk pb ps pt, .lst ev] (F (tk p m s l st own other stage met j) (e :: R')) = some (.tup [.lst (ev ++ [.str (Str.ofString "exchanged")]), .lst [pk (bts m []) ps (l.take p)]], F (tk p m ps [] (pk (bts m []) ps (l.take p)) own other "loading" met j) (e :: R')) := by
  rw [callN_at (fd := _) rfl rfl rfl]
  have h1 : ev.length + 1 ≤ 16000 := by omega
  simp (disch := first | assumption | decide +kernel | (simp [n_add, itemV, natOf]; done) | fail) [↓lam_t, ↓lk_talk, ↓nm_l, ↓nm_g, ↓put_s, ↓put_n, ↓binds_s, ↓binds_n, ↓w_name, ↓mut_f, ↓mut_t, ↓base_t, evB, evS, evE, evEs, evP, evO, evT, evA, evW, evWs, truth, natOf, itemV, tk_len, swap_na, noTop, itemsV, intsV, g_mtu, g_options, g_portion, g_is_master, g_seq, g_left, g_sent, g_own, g_other, g_stage, g_met, g_requests, a_mtu, a_options, a_portion, a_is_master, a_seq, a_left, a_sent, a_own, a_other, a_stage, a_met, a_requests, u_is_master, u_seq, u_left, u_sent, u_stage, u_met, u_requests, n_begin, n_take, n_is_double, n_is_wrong, n_take_first, n_take_next, n_led, n_followed, n_ended, n_first, n_next_packet, n_has_told_all, m_begin, m_take, m_is_double, m_is_wrong, m_take_first, m_take_next, m_led, m_followed, m_ended, m_first, m_next_packet, m_has_told_all, glDescribing, glMASTER, glMORE, glINIT, glNUMBERS, glEXTERNAL, glGREATEST_KIND, glbarred, glkey_of, glExchange, gl_law_take, gl_law_heads, gl_law_is_mismatch, gllen, glabs, glsorted, gltuple, gllist, glrange, b_len_tup, b_len_lst, b_len_obj, b_abs, b_tuple, b_list, c_lt, c_gt, c_le, c_ge, c_eq, c_ne, c_bool, c_is0, c_is1, c_isn0, c_isn1, c_t3, n_and, n_or, n_add, n_sub, n_mod, n_cat, cut_hi, cut_lo, cut_25, c_Eq_exchange_exstart, c_Eq_exstart_exstart, c_Eq_exchange_exchange, c_Eq_full_full, c_Eq_loading_full, c_Eq__, c_Eq_loading_exchange, c_Eq_loading_exstart, c_NotEq_exchange_exstart, c_NotEq_exstart_exstart, c_NotEq_exchange_exchange, c_NotEq_full_full, c_NotEq_loading_full, c_NotEq__, c_NotEq_loading_exchange, c_NotEq_loading_exstart, O.gi, O.si, O.gj, O.sj, t71' O, t162 O, hd0, hp, lcap, h1, bts_and]
theorem t155b (pb ps : Int) (pt ev : List V) (h : ¬ (l.drop p = [] ∧ Builtin.bitAnd pb 2 = 0)) (hev : ev.length < 100) :
   callN (hd.heap_1 P) (n + 1 + 1) 155 [.obj i, pk pb ps pt, .lst ev] (F (tk p m s l st own other stage met rq) R) = some (.tup [.lst ev, .lst [pk (bts m (l.drop p)) ps (l.take p)]], F (tk p m ps (l.drop p) (pk (bts m (l.drop p)) ps (l.take p)) own other stage met rq) R) := by
  rw [callN_at (fd := _) rfl rfl rfl]
  have h1 : ev.length ≤ 16000 := by omega
  by_cases hs : l.drop p = []
  · have hp : ¬ Builtin.bitAnd pb 2 = 0 := fun q => h ⟨hs, q⟩
    simp (disch := first | assumption | decide +kernel | (simp [n_add, itemV, natOf]; done) | fail) [↓lam_t, ↓lk_talk, ↓nm_l, ↓nm_g, ↓put_s, ↓put_n, ↓binds_s, ↓binds_n, ↓w_name, ↓mut_f, ↓mut_t, ↓base_t, evB, evS, evE, evEs, evP, evO, evT, evA, evW, evWs, truth, natOf, itemV, tk_len, swap_na, noTop, itemsV, intsV, g_mtu, g_options, g_portion, g_is_master, g_seq, g_left, g_sent, g_own, g_other, g_stage, g_met, g_requests, a_mtu, a_options, a_portion, a_is_master, a_seq, a_left, a_sent, a_own, a_other, a_stage, a_met, a_requests, u_is_master, u_seq, u_left, u_sent, u_stage, u_met, u_requests, n_begin, n_take, n_is_double, n_is_wrong, n_take_first, n_take_next, n_led, n_followed, n_ended, n_first, n_next_packet, n_has_told_all, m_begin, m_take, m_is_double, m_is_wrong, m_take_first, m_take_next, m_led, m_followed, m_ended, m_first, m_next_packet, m_has_told_all, glDescribing, glMASTER, glMORE, glINIT, glNUMBERS, glEXTERNAL, glGREATEST_KIND, glbarred, glkey_of, glExchange, gl_law_take, gl_law_heads, gl_law_is_mismatch, gllen, glabs, glsorted, gltuple, gllist, glrange, b_len_tup, b_len_lst, b_len_obj, b_abs, b_tuple, b_list, c_lt, c_gt, c_le, c_ge, c_eq, c_ne, c_bool, c_is0, c_is1, c_isn0, c_isn1, c_t3, n_and, n_or, n_add, n_sub, n_mod, n_cat, cut_hi, cut_lo, cut_25, c_Eq_exchange_exstart, c_Eq_exstart_exstart, c_Eq_exchange_exchange, c_Eq_full_full, c_Eq_loading_full, c_Eq__, c_Eq_loading_exchange, c_Eq_loading_exstart, c_NotEq_exchange_exstart, c_NotEq_exstart_exstart, c_NotEq_exchange_exchange, c_NotEq_full_full, c_NotEq_loading_full, c_NotEq__, c_NotEq_loading_exchange, c_NotEq_loading_exstart, O.gi, O.si, O.gj, O.sj, t71' O, hs, hp, bts_and, lcap, h1]
  · simp (disch := first | assumption | decide +kernel | (simp [n_add, itemV, natOf]; done) | fail) [↓lam_t, ↓lk_talk, ↓nm_l, ↓nm_g, ↓put_s, ↓put_n, ↓binds_s, ↓binds_n, ↓w_name, ↓mut_f, ↓mut_t, ↓base_t, evB, evS, evE, evEs, evP, evO, evT, evA, evW, evWs, truth, natOf, itemV, tk_len, swap_na, noTop, itemsV, intsV, g_mtu, g_options, g_portion, g_is_master, g_seq, g_left, g_sent, g_own, g_other, g_stage, g_met, g_requests, a_mtu, a_options, a_portion, a_is_master, a_seq, a_left, a_sent, a_own, a_other, a_stage, a_met, a_requests, u_is_master, u_seq, u_left, u_sent, u_stage, u_met, u_requests, n_begin, n_take, n_is_double, n_is_wrong, n_take_first, n_take_next, n_led, n_followed, n_ended, n_first, n_next_packet, n_has_told_all, m_begin, m_take, m_is_double, m_is_wrong, m_take_first, m_take_next, m_led, m_followed, m_ended, m_first, m_next_packet, m_has_told_all, glDescribing, glMASTER, glMORE, glINIT, glNUMBERS, glEXTERNAL, glGREATEST_KIND, glbarred, glkey_of, glExchange, gl_law_take, gl_law_heads, gl_law_is_mismatch, gllen, glabs, glsorted, gltuple, gllist, glrange, b_len_tup, b_len_lst, b_len_obj, b_abs, b_tuple, b_list, c_lt, c_gt, c_le, c_ge, c_eq, c_ne, c_bool, c_is0, c_is1, c_isn0, c_isn1, c_t3, n_and, n_or, n_add, n_sub, n_mod, n_cat, cut_hi, cut_lo, cut_25, c_Eq_exchange_exstart, c_Eq_exstart_exstart, c_Eq_exchange_exchange, c_Eq_full_full, c_Eq_loading_full, c_Eq__, c_Eq_loading_exchange, c_Eq_loading_exstart, c_NotEq_exchange_exstart, c_NotEq_exstart_exstart, c_NotEq_exchange_exchange, c_NotEq_full_full, c_NotEq_loading_full, c_NotEq__, c_NotEq_loading_exchange, c_NotEq_loading_exstart, O.gi, O.si, O.gj, O.sj, t71' O, hs, bts_and, lcap, h1]
end
end Mine

end
section
open PySem PySem.W PyProof.Rows
set_option Elab.async false
set_option maxRecDepth 100000
set_option maxHeartbeats 8000000
set_option linter.unusedSimpArgs false
namespace Mine
def Agr (ρ ρ' : Rho) : Prop := ∀ y : Str, y ≠ Str.ofString "head" → y ≠ Str.ofString "here" → ρ' y = ρ y
theorem loop_hd {f : V → Rho → St → Option (Fl × Rho × St)} {ρ0 : Rho} (T : List Int → St) : ∀ (c pre : List Int) (ρ : Rho), Agr ρ0 ρ →
    (∀ pre' x post, pre ++ c = pre' ++ x :: post → ∀ ρ, Agr ρ0 ρ → ∃ ρ', Agr ρ0 ρ' ∧ f (hdv x) ρ (T pre') = some (.next, ρ', T (pre' ++ [x]))) → ∃ ρ', Agr ρ0 ρ' ∧ loopS f (c.map hdv) ρ (T pre) = some (.next, ρ', T (pre ++ c))
  | [], pre, ρ, a, _ => ⟨ρ, a, by rw [List.append_nil]; rfl⟩
  | x :: c, pre, ρ, a, h => by
    obtain ⟨ρ₁, a₁, e₁⟩ := h pre x c rfl ρ a
    obtain ⟨ρ₂, a₂, e₂⟩ := loop_hd T c (pre ++ [x]) ρ₁ a₁ (fun pre' y post q => h pre' y post (by rw [← q]; simp))
    refine ⟨ρ₂, a₂, ?_⟩
    rw [List.map_cons, loopS, e₁]
    dsimp only
    rw [e₂, List.append_assoc]; rfl
theorem Ret_for {C : Oracle} {q p : Pos} {it : Expr} {b r : List Stmt} {sc : Scope} {ρ : Rho} {σ σ' : St} {v : V} (T : List Int → St) (c : List Int) (hs : sc.names.lookup (Str.ofString "head") = some .local) (hit : evE C it sc ρ σ = some (.tup (c.map hdv), T []))
    (hb : ∀ pre x post, c = pre ++ x :: post → ∀ ρ', Agr ρ ρ' → ∃ ρ'', Agr ρ ρ'' ∧ evB C b sc (ρ'.put (Str.ofString "head") (hdv x)) (T pre) = some (.next, ρ'', T (pre ++ [x]))) (k : ∀ ρ', Agr ρ ρ' → Ret C r sc ρ' (T c) v σ') :
    Ret C (.For (.Name (Str.ofString "head") q) it b [] p :: r) sc ρ σ v σ' := by
  obtain ⟨ρ₁, a₁, e₁⟩ := loop_hd (f := fun u ρ σ => match evW C (.Name (Str.ofString "head") q) u sc ρ σ with
          | some (ρ, σ) => evB C b sc ρ σ
          | none => none) T c [] ρ (fun _ _ _ => rfl) (fun pre x post e ρ' a => by
    obtain ⟨ρ'', a', e'⟩ := hb pre x post e ρ' a
    refine ⟨ρ'', a', ?_⟩
    rw [evW, hs]; exact e')
  obtain ⟨ρ', e⟩ := k ρ₁ a₁
  refine ⟨ρ', ?_⟩
  rw [evB, evS, hit]
  dsimp only [itemsV]
  exact Eq.trans (congrArg (fun z => match z with | some (Fl.next, ρ, σ) => evB C r sc ρ σ | some (f, ρ, σ) => some (f, ρ, σ) | none => none) e₁) e
theorem Agr.head {ρ ρ' : Rho} (a : Agr ρ ρ') (v : V) : Agr ρ (ρ'.put (Str.ofString "head") v) := fun y h1 h2 => by
  rw [put_at, if_neg h1]; exact a y h1 h2
theorem Agr.here {ρ ρ' : Rho} (a : Agr ρ ρ') (v : V) : Agr ρ (ρ'.put (Str.ofString "here") v) := fun y h1 h2 => by
  rw [put_at, if_neg h2]; exact a y h1 h2
theorem any_ent {Z : List Int} {x : Int} (h : x ∉ Z) : ((Z.map ent).any fun e => decide (e.1 = [1, 0, x])) = false := by
  rw [List.any_eq_false]
  intro e he
  obtain ⟨y, hy, rfl⟩ := List.mem_map.mp he
  simp only [ent, decide_eq_true_eq]
  intro q
  have q := of_decide_eq_true q
  injection q with _ q; injection q with _ q; injection q with q
  exact h (q ▸ hy)
section
variable {F : List (Str × V) → List (List Int × V) → St} {i j : Nat} (O : Own F i j) (P : Params) (n : Nat)
  {p : Nat} {m : Bool} {s : Int} {l : List V} {st : V} {own other : Int} {stage : String} {met : V}
include O
theorem t141 {b ps : Int} {c Z : List Int} {ev : List V} {v : V} {σ' : St} (hn : (Z ++ c).Nodup) (hl : (Z ++ c).length < 1000)
   (k : callN (hd.heap_1 P) (n + 2) (if m then 148 else 155) [.obj i, pk b ps (c.map hdv), .lst ev] (F (tk p m s l st own other stage (pk b ps (c.map hdv)) j) ((Z ++ c).map ent)) = some (v, σ')) :
   callN (hd.heap_1 P) (n + 1 + 1 + 1) 141 [.obj i, pk b ps (c.map hdv), .lam, .bool false, .lst ev] (F (tk p m s l st own other stage met j) (Z.map ent)) = some (v, σ') := by
  refine callN_ret (fd := _) rfl rfl rfl ?_
  refine Ret_same (σ₁ := F (tk p m s l st own other stage (pk b ps (c.map hdv)) j) (Z.map ent)) ?_ ?_
  · simp (disch := first | assumption | decide +kernel | (simp [n_add, itemV, natOf]; done) | fail) [↓lam_t, ↓lk_talk, ↓nm_l, ↓nm_g, ↓put_s, ↓put_n, ↓binds_s, ↓binds_n, ↓w_name, ↓mut_f, ↓mut_t, ↓base_t, evB, evS, evE, evEs, evP, evO, evT, evA, evW, evWs, truth, natOf, itemV, tk_len, swap_na, noTop, itemsV, intsV, g_mtu, g_options, g_portion, g_is_master, g_seq, g_left, g_sent, g_own, g_other, g_stage, g_met, g_requests, a_mtu, a_options, a_portion, a_is_master, a_seq, a_left, a_sent, a_own, a_other, a_stage, a_met, a_requests, u_is_master, u_seq, u_left, u_sent, u_stage, u_met, u_requests, n_begin, n_take, n_is_double, n_is_wrong, n_take_first, n_take_next, n_led, n_followed, n_ended, n_first, n_next_packet, n_has_told_all, m_begin, m_take, m_is_double, m_is_wrong, m_take_first, m_take_next, m_led, m_followed, m_ended, m_first, m_next_packet, m_has_told_all, glDescribing, glMASTER, glMORE, glINIT, glNUMBERS, glEXTERNAL, glGREATEST_KIND, glbarred, glkey_of, glExchange, gl_law_take, gl_law_heads, gl_law_is_mismatch, gllen, glabs, glsorted, gltuple, gllist, glrange, b_len_tup, b_len_lst, b_len_obj, b_abs, b_tuple, b_list, c_lt, c_gt, c_le, c_ge, c_eq, c_ne, c_bool, c_is0, c_is1, c_isn0, c_isn1, c_t3, n_and, n_or, n_add, n_sub, n_mod, n_cat, cut_hi, cut_lo, cut_25, c_Eq_exchange_exstart, c_Eq_exstart_exstart, c_Eq_exchange_exchange, c_Eq_full_full, c_Eq_loading_full, c_Eq__, c_Eq_loading_exchange, c_Eq_loading_exstart, c_NotEq_exchange_exstart, c_NotEq_exstart_exstart, c_NotEq_exchange_exchange, c_NotEq_full_full, c_NotEq_loading_full, c_NotEq__, c_NotEq_loading_exchange, c_NotEq_loading_exstart, O.gi, O.si, O.gj, O.sj]
  refine Ret_for (fun _ => F (tk p m s l st own other stage (pk b ps (c.map hdv)) j) (Z.map ent)) c ?_ ?_ ?_ ?_
  · kernel_rfl
  · simp (disch := first | assumption | decide +kernel | (simp [n_add, itemV, natOf]; done) | fail) [↓lam_t, ↓lk_talk, ↓nm_l, ↓nm_g, ↓put_s, ↓put_n, ↓binds_s, ↓binds_n, ↓w_name, ↓mut_f, ↓mut_t, ↓base_t, evB, evS, evE, evEs, evP, evO, evT, evA, evW, evWs, truth, natOf, itemV, tk_len, swap_na, noTop, itemsV, intsV, g_mtu, g_options, g_portion, g_is_master, g_seq, g_left, g_sent, g_own, g_other, g_stage, g_met, g_requests, a_mtu, a_options, a_portion, a_is_master, a_seq, a_left, a_sent, a_own, a_other, a_stage, a_met, a_requests, u_is_master, u_seq, u_left, u_sent, u_stage, u_met, u_requests, n_begin, n_take, n_is_double, n_is_wrong, n_take_first, n_take_next, n_led, n_followed, n_ended, n_first, n_next_packet, n_has_told_all, m_begin, m_take, m_is_double, m_is_wrong, m_take_first, m_take_next, m_led, m_followed, m_ended, m_first, m_next_packet, m_has_told_all, glDescribing, glMASTER, glMORE, glINIT, glNUMBERS, glEXTERNAL, glGREATEST_KIND, glbarred, glkey_of, glExchange, gl_law_take, gl_law_heads, gl_law_is_mismatch, gllen, glabs, glsorted, gltuple, gllist, glrange, b_len_tup, b_len_lst, b_len_obj, b_abs, b_tuple, b_list, c_lt, c_gt, c_le, c_ge, c_eq, c_ne, c_bool, c_is0, c_is1, c_isn0, c_isn1, c_t3, n_and, n_or, n_add, n_sub, n_mod, n_cat, cut_hi, cut_lo, cut_25, c_Eq_exchange_exstart, c_Eq_exstart_exstart, c_Eq_exchange_exchange, c_Eq_full_full, c_Eq_loading_full, c_Eq__, c_Eq_loading_exchange, c_Eq_loading_exstart, c_NotEq_exchange_exstart, c_NotEq_exstart_exstart, c_NotEq_exchange_exchange, c_NotEq_full_full, c_NotEq_loading_full, c_NotEq__, c_NotEq_loading_exchange, c_NotEq_loading_exstart]
  · intro pre x post e ρ' a
    refine ⟨_, a.head (hdv x), ?_⟩
    simp (disch := first | assumption | decide +kernel | (simp [n_add, itemV, natOf]; done) | fail) [↓lam_t, ↓lk_talk, ↓nm_l, ↓nm_g, ↓put_s, ↓put_n, ↓binds_s, ↓binds_n, ↓w_name, ↓mut_f, ↓mut_t, ↓base_t, evB, evS, evE, evEs, evP, evO, evT, evA, evW, evWs, truth, natOf, itemV, tk_len, swap_na, noTop, itemsV, intsV, g_mtu, g_options, g_portion, g_is_master, g_seq, g_left, g_sent, g_own, g_other, g_stage, g_met, g_requests, a_mtu, a_options, a_portion, a_is_master, a_seq, a_left, a_sent, a_own, a_other, a_stage, a_met, a_requests, u_is_master, u_seq, u_left, u_sent, u_stage, u_met, u_requests, n_begin, n_take, n_is_double, n_is_wrong, n_take_first, n_take_next, n_led, n_followed, n_ended, n_first, n_next_packet, n_has_told_all, m_begin, m_take, m_is_double, m_is_wrong, m_take_first, m_take_next, m_led, m_followed, m_ended, m_first, m_next_packet, m_has_told_all, glDescribing, glMASTER, glMORE, glINIT, glNUMBERS, glEXTERNAL, glGREATEST_KIND, glbarred, glkey_of, glExchange, gl_law_take, gl_law_heads, gl_law_is_mismatch, gllen, glabs, glsorted, gltuple, gllist, glrange, b_len_tup, b_len_lst, b_len_obj, b_abs, b_tuple, b_list, c_lt, c_gt, c_le, c_ge, c_eq, c_ne, c_bool, c_is0, c_is1, c_isn0, c_isn1, c_t3, n_and, n_or, n_add, n_sub, n_mod, n_cat, cut_hi, cut_lo, cut_25, c_Eq_exchange_exstart, c_Eq_exstart_exstart, c_Eq_exchange_exchange, c_Eq_full_full, c_Eq_loading_full, c_Eq__, c_Eq_loading_exchange, c_Eq_loading_exstart, c_NotEq_exchange_exstart, c_NotEq_exstart_exstart, c_NotEq_exchange_exchange, c_NotEq_full_full, c_NotEq_loading_full, c_NotEq__, c_NotEq_loading_exchange, c_NotEq_loading_exstart, t28, a _]
  intro ρ₁ a₁
  refine Ret_for (fun pre => F (tk p m s l st own other stage (pk b ps (c.map hdv)) j) ((Z ++ pre).map ent)) c ?_ ?_ ?_ ?_
  · kernel_rfl
  · simp (disch := first | assumption | decide +kernel | (simp [n_add, itemV, natOf]; done) | fail) [↓lam_t, ↓lk_talk, ↓nm_l, ↓nm_g, ↓put_s, ↓put_n, ↓binds_s, ↓binds_n, ↓w_name, ↓mut_f, ↓mut_t, ↓base_t, evB, evS, evE, evEs, evP, evO, evT, evA, evW, evWs, truth, natOf, itemV, tk_len, swap_na, noTop, itemsV, intsV, g_mtu, g_options, g_portion, g_is_master, g_seq, g_left, g_sent, g_own, g_other, g_stage, g_met, g_requests, a_mtu, a_options, a_portion, a_is_master, a_seq, a_left, a_sent, a_own, a_other, a_stage, a_met, a_requests, u_is_master, u_seq, u_left, u_sent, u_stage, u_met, u_requests, n_begin, n_take, n_is_double, n_is_wrong, n_take_first, n_take_next, n_led, n_followed, n_ended, n_first, n_next_packet, n_has_told_all, m_begin, m_take, m_is_double, m_is_wrong, m_take_first, m_take_next, m_led, m_followed, m_ended, m_first, m_next_packet, m_has_told_all, glDescribing, glMASTER, glMORE, glINIT, glNUMBERS, glEXTERNAL, glGREATEST_KIND, glbarred, glkey_of, glExchange, gl_law_take, gl_law_heads, gl_law_is_mismatch, gllen, glabs, glsorted, gltuple, gllist, glrange, b_len_tup, b_len_lst, b_len_obj, b_abs, b_tuple, b_list, c_lt, c_gt, c_le, c_ge, c_eq, c_ne, c_bool, c_is0, c_is1, c_isn0, c_isn1, c_t3, n_and, n_or, n_add, n_sub, n_mod, n_cat, cut_hi, cut_lo, cut_25, c_Eq_exchange_exstart, c_Eq_exstart_exstart, c_Eq_exchange_exchange, c_Eq_full_full, c_Eq_loading_full, c_Eq__, c_Eq_loading_exchange, c_Eq_loading_exstart, c_NotEq_exchange_exstart, c_NotEq_exstart_exstart, c_NotEq_exchange_exchange, c_NotEq_full_full, c_NotEq_loading_full, c_NotEq__, c_NotEq_loading_exchange, c_NotEq_loading_exstart, a₁ _]
  · intro pre x post e ρ' a
    refine ⟨_, (a.head (hdv x)).here .none, ?_⟩
    have hx : x ∉ Z ++ pre := by
      rw [e, ← List.append_assoc, List.nodup_append] at hn
      exact fun q => hn.2.2 x q x List.mem_cons_self rfl
    have hany := any_ent hx
    have hlen : ((Z ++ pre).map ent).length < 1000 := by
      rw [e] at hl; simp at hl ⊢; omega
    rw [show (Z ++ (pre ++ [x])).map ent = (Z ++ pre).map ent ++ [ent x] by simp]
    generalize (Z ++ pre).map ent = R at *
    simp (disch := first | assumption | decide +kernel | (simp [n_add, itemV, natOf]; done) | fail) [↓lam_t, ↓lk_talk, ↓nm_l, ↓nm_g, ↓put_s, ↓put_n, ↓binds_s, ↓binds_n, ↓w_name, ↓mut_f, ↓mut_t, ↓base_t, evB, evS, evE, evEs, evP, evO, evT, evA, evW, evWs, truth, natOf, itemV, tk_len, swap_na, noTop, itemsV, intsV, g_mtu, g_options, g_portion, g_is_master, g_seq, g_left, g_sent, g_own, g_other, g_stage, g_met, g_requests, a_mtu, a_options, a_portion, a_is_master, a_seq, a_left, a_sent, a_own, a_other, a_stage, a_met, a_requests, u_is_master, u_seq, u_left, u_sent, u_stage, u_met, u_requests, n_begin, n_take, n_is_double, n_is_wrong, n_take_first, n_take_next, n_led, n_followed, n_ended, n_first, n_next_packet, n_has_told_all, m_begin, m_take, m_is_double, m_is_wrong, m_take_first, m_take_next, m_led, m_followed, m_ended, m_first, m_next_packet, m_has_told_all, glDescribing, glMASTER, glMORE, glINIT, glNUMBERS, glEXTERNAL, glGREATEST_KIND, glbarred, glkey_of, glExchange, gl_law_take, gl_law_heads, gl_law_is_mismatch, gllen, glabs, glsorted, gltuple, gllist, glrange, b_len_tup, b_len_lst, b_len_obj, b_abs, b_tuple, b_list, c_lt, c_gt, c_le, c_ge, c_eq, c_ne, c_bool, c_is0, c_is1, c_isn0, c_isn1, c_t3, n_and, n_or, n_add, n_sub, n_mod, n_cat, cut_hi, cut_lo, cut_25, c_Eq_exchange_exstart, c_Eq_exstart_exstart, c_Eq_exchange_exchange, c_Eq_full_full, c_Eq_loading_full, c_Eq__, c_Eq_loading_exchange, c_Eq_loading_exstart, c_NotEq_exchange_exstart, c_NotEq_exstart_exstart, c_NotEq_exchange_exchange, c_NotEq_full_full, c_NotEq_loading_full, c_NotEq__, c_NotEq_loading_exchange, c_NotEq_loading_exstart, O.gi, O.si, O.gj, O.sj, t43, a _, a₁ _, keyV, hany, hlen, ent]
  intro ρ₂ a₂
  refine ⟨ρ₂, ?_⟩
  rw [List.map_append] at k
  cases m <;> simp only [if_true, if_false, Bool.false_eq_true] at k <;> simp (disch := first | assumption | decide +kernel | (simp [n_add, itemV, natOf]; done) | fail) [↓lam_t, ↓lk_talk, ↓nm_l, ↓nm_g, ↓put_s, ↓put_n, ↓binds_s, ↓binds_n, ↓w_name, ↓mut_f, ↓mut_t, ↓base_t, evB, evS, evE, evEs, evP, evO, evT, evA, evW, evWs, truth, natOf, itemV, tk_len, swap_na, noTop, itemsV, intsV, g_mtu, g_options, g_portion, g_is_master, g_seq, g_left, g_sent, g_own, g_other, g_stage, g_met, g_requests, a_mtu, a_options, a_portion, a_is_master, a_seq, a_left, a_sent, a_own, a_other, a_stage, a_met, a_requests, u_is_master, u_seq, u_left, u_sent, u_stage, u_met, u_requests, n_begin, n_take, n_is_double, n_is_wrong, n_take_first, n_take_next, n_led, n_followed, n_ended, n_first, n_next_packet, n_has_told_all, m_begin, m_take, m_is_double, m_is_wrong, m_take_first, m_take_next, m_led, m_followed, m_ended, m_first, m_next_packet, m_has_told_all, glDescribing, glMASTER, glMORE, glINIT, glNUMBERS, glEXTERNAL, glGREATEST_KIND, glbarred, glkey_of, glExchange, gl_law_take, gl_law_heads, gl_law_is_mismatch, gllen, glabs, glsorted, gltuple, gllist, glrange, b_len_tup, b_len_lst, b_len_obj, b_abs, b_tuple, b_list, c_lt, c_gt, c_le, c_ge, c_eq, c_ne, c_bool, c_is0, c_is1, c_isn0, c_isn1, c_t3, n_and, n_or, n_add, n_sub, n_mod, n_cat, cut_hi, cut_lo, cut_25, c_Eq_exchange_exstart, c_Eq_exstart_exstart, c_Eq_exchange_exchange, c_Eq_full_full, c_Eq_loading_full, c_Eq__, c_Eq_loading_exchange, c_Eq_loading_exstart, c_NotEq_exchange_exstart, c_NotEq_exstart_exstart, c_NotEq_exchange_exchange, c_NotEq_full_full, c_NotEq_loading_full, c_NotEq__, c_NotEq_loading_exchange, c_NotEq_loading_exstart, O.gi, O.si, O.gj, O.sj, a₁ _, a₂ _, k]
end
end Mine

end
section
open PySem PySem.W PyProof.Rows
set_option Elab.async false
set_option maxRecDepth 100000
set_option maxHeartbeats 8000000
set_option linter.unusedSimpArgs false
namespace Mine
abbrev neg : V := .str (Str.ofString "negotiated")
abbrev exd : V := .str (Str.ofString "exchanged")
abbrev nx (s : Int) : Int := (s + 1).fmod 4294967296
section
variable {F : List (Str × V) → List (List Int × V) → St} {i j : Nat} (O : Own F i j) (P : Params) (n : Nat)
  {p : Nat} {m : Bool} {s : Int} {l : List V} {st : V} {own other : Int} {stage : String} {met : V} {R : List (List Int × V)}
include O
theorem t134l (N : Int) : callN (hd.heap_1 P) (n + 4) 134 [.obj i, pk 7 N [], .lam, .bool false] (F (tk p true s l st 5 9 "exstart" met j) []) =
    some (.tup [.lst [neg], .lst [pk (bts false (l.drop p)) N (l.take p)]], F (tk p false N (l.drop p) (pk (bts false (l.drop p)) N (l.take p)) 5 9 "exchange" (pk 7 N []) j) []) := by
  have h7 : ¬ Builtin.bitAnd 7 2 = 0 := by decide
  have k := t141 (l := l) (p := p) (s := N) (st := st) (own := 5) (other := 9) (stage := "exchange") (met := met) (m := false) O P n (b := 7) (ps := N) (c := []) (Z := []) (ev := [neg]) (by simp) (by simp) (t155b O P n 7 N _ [neg] (fun q => h7 q.2) (by simp))
  simp only [List.map_nil] at k
  rw [callN_at (fd := _) rfl rfl rfl]
  have h1 : Builtin.bitOr 4 2 = 6 := by decide
  have h2 : Builtin.bitOr 6 1 = 7 := by decide
  have h3 : Builtin.bitAnd 7 7 = 7 := by decide
  simp (disch := first | assumption | decide +kernel | (simp [n_add, itemV, natOf]; done) | fail) [↓lam_t, ↓lk_talk, ↓nm_l, ↓nm_g, ↓put_s, ↓put_n, ↓binds_s, ↓binds_n, ↓w_name, ↓mut_f, ↓mut_t, ↓base_t, evB, evS, evE, evEs, evP, evO, evT, evA, evW, evWs, truth, natOf, itemV, tk_len, swap_na, noTop, itemsV, intsV, g_mtu, g_options, g_portion, g_is_master, g_seq, g_left, g_sent, g_own, g_other, g_stage, g_met, g_requests, a_mtu, a_options, a_portion, a_is_master, a_seq, a_left, a_sent, a_own, a_other, a_stage, a_met, a_requests, u_is_master, u_seq, u_left, u_sent, u_stage, u_met, u_requests, n_begin, n_take, n_is_double, n_is_wrong, n_take_first, n_take_next, n_led, n_followed, n_ended, n_first, n_next_packet, n_has_told_all, m_begin, m_take, m_is_double, m_is_wrong, m_take_first, m_take_next, m_led, m_followed, m_ended, m_first, m_next_packet, m_has_told_all, glDescribing, glMASTER, glMORE, glINIT, glNUMBERS, glEXTERNAL, glGREATEST_KIND, glbarred, glkey_of, glExchange, gl_law_take, gl_law_heads, gl_law_is_mismatch, gllen, glabs, glsorted, gltuple, gllist, glrange, b_len_tup, b_len_lst, b_len_obj, b_abs, b_tuple, b_list, c_lt, c_gt, c_le, c_ge, c_eq, c_ne, c_bool, c_is0, c_is1, c_isn0, c_isn1, c_t3, n_and, n_or, n_add, n_sub, n_mod, n_cat, cut_hi, cut_lo, cut_25, c_Eq_exchange_exstart, c_Eq_exstart_exstart, c_Eq_exchange_exchange, c_Eq_full_full, c_Eq_loading_full, c_Eq__, c_Eq_loading_exchange, c_Eq_loading_exstart, c_NotEq_exchange_exstart, c_NotEq_exstart_exstart, c_NotEq_exchange_exchange, c_NotEq_full_full, c_NotEq_loading_full, c_NotEq__, c_NotEq_loading_exchange, c_NotEq_loading_exstart, swap2, swap3, fo_sub, fo_call, fo_list, co_if, co_call, co_name, co_sub, st_sub, st_call, st_list, st_if, st_name, putAll, O.gi, O.si, O.gj, O.sj, h1, h2, h3, k]
theorem t134h (b : Int) (c : List Int) (hb : b = 0 ∨ b = 2) (hn : c.Nodup) (hl : c.length < 1000) : callN (hd.heap_1 P) (n + 4) 134 [.obj i, pk b s (c.map hdv), .lam, .bool false] (F (tk p true s l (pk 7 s []) 9 5 "exstart" met j) []) =
    some (.tup [.lst [neg], .lst [pk (bts true (l.drop p)) (nx s) (l.take p)]], F (tk p true (nx s) (l.drop p) (pk (bts true (l.drop p)) (nx s) (l.take p)) 9 5 "exchange" (pk b s (c.map hdv)) j) (c.map ent)) := by
  have h7 : ¬ Builtin.bitAnd 7 2 = 0 := by decide
  have k := t141 (l := l) (p := p) (s := s) (st := pk 7 s []) (own := 9) (other := 5) (stage := "exchange") (met := met) (m := true) O P n (b := b) (ps := s) (c := c) (Z := []) (ev := [neg]) (by simpa using hn) (by simpa using hl) (t148b O P n 7 s b s [] _ [neg] (fun q => h7 q.1))
  simp only [List.map_nil, List.nil_append] at k
  rw [callN_at (fd := _) rfl rfl rfl]
  have h1 : Builtin.bitOr 4 2 = 6 := by decide
  have h2 : Builtin.bitOr 6 1 = 7 := by decide
  have h5 : Builtin.bitOr 4 1 = 5 := by decide
  have h3 : ¬ Builtin.bitAnd b 7 = 7 := by rcases hb with rfl | rfl <;> decide
  have h6 : Builtin.bitAnd b 5 = 0 := by rcases hb with rfl | rfl <;> decide
  simp (disch := first | assumption | decide +kernel | (simp [n_add, itemV, natOf]; done) | fail) [↓lam_t, ↓lk_talk, ↓nm_l, ↓nm_g, ↓put_s, ↓put_n, ↓binds_s, ↓binds_n, ↓w_name, ↓mut_f, ↓mut_t, ↓base_t, evB, evS, evE, evEs, evP, evO, evT, evA, evW, evWs, truth, natOf, itemV, tk_len, swap_na, noTop, itemsV, intsV, g_mtu, g_options, g_portion, g_is_master, g_seq, g_left, g_sent, g_own, g_other, g_stage, g_met, g_requests, a_mtu, a_options, a_portion, a_is_master, a_seq, a_left, a_sent, a_own, a_other, a_stage, a_met, a_requests, u_is_master, u_seq, u_left, u_sent, u_stage, u_met, u_requests, n_begin, n_take, n_is_double, n_is_wrong, n_take_first, n_take_next, n_led, n_followed, n_ended, n_first, n_next_packet, n_has_told_all, m_begin, m_take, m_is_double, m_is_wrong, m_take_first, m_take_next, m_led, m_followed, m_ended, m_first, m_next_packet, m_has_told_all, glDescribing, glMASTER, glMORE, glINIT, glNUMBERS, glEXTERNAL, glGREATEST_KIND, glbarred, glkey_of, glExchange, gl_law_take, gl_law_heads, gl_law_is_mismatch, gllen, glabs, glsorted, gltuple, gllist, glrange, b_len_tup, b_len_lst, b_len_obj, b_abs, b_tuple, b_list, c_lt, c_gt, c_le, c_ge, c_eq, c_ne, c_bool, c_is0, c_is1, c_isn0, c_isn1, c_t3, n_and, n_or, n_add, n_sub, n_mod, n_cat, cut_hi, cut_lo, cut_25, c_Eq_exchange_exstart, c_Eq_exstart_exstart, c_Eq_exchange_exchange, c_Eq_full_full, c_Eq_loading_full, c_Eq__, c_Eq_loading_exchange, c_Eq_loading_exstart, c_NotEq_exchange_exstart, c_NotEq_exstart_exstart, c_NotEq_exchange_exchange, c_NotEq_full_full, c_NotEq_loading_full, c_NotEq__, c_NotEq_loading_exchange, c_NotEq_loading_exstart, swap2, swap3, fo_sub, fo_call, fo_list, co_if, co_call, co_name, co_sub, st_sub, st_call, st_list, st_if, st_name, putAll, O.gi, O.si, O.gj, O.sj, h1, h2, h3, h5, h6, k]
theorem t113s {pkt : V} {b x : Int} {t : List V} (hp : pkt = pk b x t) {v : V} {σ' : St} (k : callN (hd.heap_1 P) (n + 4) 134 [.obj i, pkt, .lam, .bool false] (F (tk p m s l st own other "exstart" met j) R) = some (v, σ')) :
    callN (hd.heap_1 P) (n + 5) 113 [.obj i, pkt, .lam, .bool false] (F (tk p m s l st own other "exstart" met j) R) = some (v, σ') := by
  subst hp
  rw [callN_at (fd := _) rfl rfl rfl]
  simp (disch := first | assumption | decide +kernel | (simp [n_add, itemV, natOf]; done) | fail) [↓lam_t, ↓lk_talk, ↓nm_l, ↓nm_g, ↓put_s, ↓put_n, ↓binds_s, ↓binds_n, ↓w_name, ↓mut_f, ↓mut_t, ↓base_t, evB, evS, evE, evEs, evP, evO, evT, evA, evW, evWs, truth, natOf, itemV, tk_len, swap_na, noTop, itemsV, intsV, g_mtu, g_options, g_portion, g_is_master, g_seq, g_left, g_sent, g_own, g_other, g_stage, g_met, g_requests, a_mtu, a_options, a_portion, a_is_master, a_seq, a_left, a_sent, a_own, a_other, a_stage, a_met, a_requests, u_is_master, u_seq, u_left, u_sent, u_stage, u_met, u_requests, n_begin, n_take, n_is_double, n_is_wrong, n_take_first, n_take_next, n_led, n_followed, n_ended, n_first, n_next_packet, n_has_told_all, m_begin, m_take, m_is_double, m_is_wrong, m_take_first, m_take_next, m_led, m_followed, m_ended, m_first, m_next_packet, m_has_told_all, glDescribing, glMASTER, glMORE, glINIT, glNUMBERS, glEXTERNAL, glGREATEST_KIND, glbarred, glkey_of, glExchange, gl_law_take, gl_law_heads, gl_law_is_mismatch, gllen, glabs, glsorted, gltuple, gllist, glrange, b_len_tup, b_len_lst, b_len_obj, b_abs, b_tuple, b_list, c_lt, c_gt, c_le, c_ge, c_eq, c_ne, c_bool, c_is0, c_is1, c_isn0, c_isn1, c_t3, n_and, n_or, n_add, n_sub, n_mod, n_cat, cut_hi, cut_lo, cut_25, c_Eq_exchange_exstart, c_Eq_exstart_exstart, c_Eq_exchange_exchange, c_Eq_full_full, c_Eq_loading_full, c_Eq__, c_Eq_loading_exchange, c_Eq_loading_exstart, c_NotEq_exchange_exstart, c_NotEq_exstart_exstart, c_NotEq_exchange_exchange, c_NotEq_full_full, c_NotEq_loading_full, c_NotEq__, c_NotEq_loading_exchange, c_NotEq_loading_exstart, swap2, swap3, fo_sub, fo_call, fo_list, co_if, co_call, co_name, co_sub, st_sub, st_call, st_list, st_if, st_name, putAll, O.gi, O.si, O.gj, O.sj, k]
theorem t113x {b x b' s' : Int} {t t' : List V} (hx : x ≠ s') {v : V} {σ' : St}
    (w : callN (hd.heap_1 P) (n + 4) 127 [.obj i, pk b x t] (F (tk p m s l st own other "exchange" (pk b' s' t') j) R) = some (.bool false, F (tk p m s l st own other "exchange" (pk b' s' t') j) R))
    (k : callN (hd.heap_1 P) (n + 4) 141 [.obj i, pk b x t, .lam, .bool false, .lst []] (F (tk p m s l st own other "exchange" (pk b' s' t') j) R) = some (v, σ')) :
    callN (hd.heap_1 P) (n + 5) 113 [.obj i, pk b x t, .lam, .bool false] (F (tk p m s l st own other "exchange" (pk b' s' t') j) R) = some (v, σ') := by
  rw [callN_at (fd := _) rfl rfl rfl]
  have d := t120 O P (n + 3) (rq := j) (m := m) (s := s) (p := p) (l := l) (st := st) (own := own) (other := other) (stage := "exchange") (R := R) b x b' s' t t' hx
  simp (disch := first | assumption | decide +kernel | (simp [n_add, itemV, natOf]; done) | fail) [↓lam_t, ↓lk_talk, ↓nm_l, ↓nm_g, ↓put_s, ↓put_n, ↓binds_s, ↓binds_n, ↓w_name, ↓mut_f, ↓mut_t, ↓base_t, evB, evS, evE, evEs, evP, evO, evT, evA, evW, evWs, truth, natOf, itemV, tk_len, swap_na, noTop, itemsV, intsV, g_mtu, g_options, g_portion, g_is_master, g_seq, g_left, g_sent, g_own, g_other, g_stage, g_met, g_requests, a_mtu, a_options, a_portion, a_is_master, a_seq, a_left, a_sent, a_own, a_other, a_stage, a_met, a_requests, u_is_master, u_seq, u_left, u_sent, u_stage, u_met, u_requests, n_begin, n_take, n_is_double, n_is_wrong, n_take_first, n_take_next, n_led, n_followed, n_ended, n_first, n_next_packet, n_has_told_all, m_begin, m_take, m_is_double, m_is_wrong, m_take_first, m_take_next, m_led, m_followed, m_ended, m_first, m_next_packet, m_has_told_all, glDescribing, glMASTER, glMORE, glINIT, glNUMBERS, glEXTERNAL, glGREATEST_KIND, glbarred, glkey_of, glExchange, gl_law_take, gl_law_heads, gl_law_is_mismatch, gllen, glabs, glsorted, gltuple, gllist, glrange, b_len_tup, b_len_lst, b_len_obj, b_abs, b_tuple, b_list, c_lt, c_gt, c_le, c_ge, c_eq, c_ne, c_bool, c_is0, c_is1, c_isn0, c_isn1, c_t3, n_and, n_or, n_add, n_sub, n_mod, n_cat, cut_hi, cut_lo, cut_25, c_Eq_exchange_exstart, c_Eq_exstart_exstart, c_Eq_exchange_exchange, c_Eq_full_full, c_Eq_loading_full, c_Eq__, c_Eq_loading_exchange, c_Eq_loading_exstart, c_NotEq_exchange_exstart, c_NotEq_exstart_exstart, c_NotEq_exchange_exchange, c_NotEq_full_full, c_NotEq_loading_full, c_NotEq__, c_NotEq_loading_exchange, c_NotEq_loading_exstart, swap2, swap3, fo_sub, fo_call, fo_list, co_if, co_call, co_name, co_sub, st_sub, st_call, st_list, st_if, st_name, putAll, O.gi, O.si, O.gj, O.sj, d, w, k]
end
end Mine

end
section
open PySem PySem.W PyProof.Rows
set_option Elab.async false
set_option maxRecDepth 100000
set_option maxHeartbeats 8000000
set_option linter.unusedSimpArgs false
namespace Mine
def tk7 (p : Nat) : List (Str × V) := [("mtu", .int 1500), ("options", .int 2), ("portion", .int p), ("is_master", .bool true), ("seq", .int 0), ("left", .lst []), ("sent", .none)]
theorem l_get (σ : St) (A : List (Str × V)) (T : St) : (σ ++ .inst A :: T)[σ.length]? = some (.inst A) := by simp
theorem l_set (σ : St) (A B : List (Str × V)) (T : St) : (σ ++ .inst A :: T).set σ.length (.inst B) = σ ++ .inst B :: T := by simp
theorem t57 (P : Params) (n : Nat) (σ : St) (p : Nat) : callN (hd.heap_1 P) (n + 1) 57 [.obj σ.length, .int 1500, .int 2, .int p] (σ ++ [.inst []]) = some (.none, σ ++ [.inst (tk7 p)]) := by
  rw [callN_at (fd := _) rfl rfl rfl]
  simp (disch := first | assumption | decide +kernel | (simp [n_add, itemV, natOf]; done) | fail) [↓lam_t, ↓lk_talk, ↓nm_l, ↓nm_g, ↓put_s, ↓put_n, ↓binds_s, ↓binds_n, ↓w_name, ↓mut_f, ↓mut_t, ↓base_t, evB, evS, evE, evEs, evP, evO, evT, evA, evW, evWs, truth, natOf, itemV, tk_len, swap_na, noTop, itemsV, intsV, g_mtu, g_options, g_portion, g_is_master, g_seq, g_left, g_sent, g_own, g_other, g_stage, g_met, g_requests, a_mtu, a_options, a_portion, a_is_master, a_seq, a_left, a_sent, a_own, a_other, a_stage, a_met, a_requests, u_is_master, u_seq, u_left, u_sent, u_stage, u_met, u_requests, n_begin, n_take, n_is_double, n_is_wrong, n_take_first, n_take_next, n_led, n_followed, n_ended, n_first, n_next_packet, n_has_told_all, m_begin, m_take, m_is_double, m_is_wrong, m_take_first, m_take_next, m_led, m_followed, m_ended, m_first, m_next_packet, m_has_told_all, glDescribing, glMASTER, glMORE, glINIT, glNUMBERS, glEXTERNAL, glGREATEST_KIND, glbarred, glkey_of, glExchange, gl_law_take, gl_law_heads, gl_law_is_mismatch, gllen, glabs, glsorted, gltuple, gllist, glrange, b_len_tup, b_len_lst, b_len_obj, b_abs, b_tuple, b_list, c_lt, c_gt, c_le, c_ge, c_eq, c_ne, c_bool, c_is0, c_is1, c_isn0, c_isn1, c_t3, n_and, n_or, n_add, n_sub, n_mod, n_cat, cut_hi, cut_lo, cut_25, c_Eq_exchange_exstart, c_Eq_exstart_exstart, c_Eq_exchange_exchange, c_Eq_full_full, c_Eq_loading_full, c_Eq__, c_Eq_loading_exchange, c_Eq_loading_exstart, c_NotEq_exchange_exstart, c_NotEq_exstart_exstart, c_NotEq_exchange_exchange, c_NotEq_full_full, c_NotEq_loading_full, c_NotEq__, c_NotEq_loading_exchange, c_NotEq_loading_exstart, ↓aput_0, ↓aput_s, ↓aput_n, l_get, l_set, tk7]
theorem t99 (P : Params) (n : Nat) (σ : St) (p : Nat) (own other : Int) : callN (hd.heap_1 P) (n + 2) 99 [.obj σ.length, .int own, .int other, .int 1500, .int 2, .int p] (σ ++ [.inst []]) = some (.none, σ ++ [.inst (tk p true 0 [] .none own other "exstart" .none (σ.length + 1)), .dict []]) := by
  rw [callN_at (fd := _) rfl rfl rfl]
  simp (disch := first | assumption | decide +kernel | (simp [n_add, itemV, natOf]; done) | fail) [↓lam_t, ↓lk_talk, ↓nm_l, ↓nm_g, ↓put_s, ↓put_n, ↓binds_s, ↓binds_n, ↓w_name, ↓mut_f, ↓mut_t, ↓base_t, evB, evS, evE, evEs, evP, evO, evT, evA, evW, evWs, truth, natOf, itemV, tk_len, swap_na, noTop, itemsV, intsV, g_mtu, g_options, g_portion, g_is_master, g_seq, g_left, g_sent, g_own, g_other, g_stage, g_met, g_requests, a_mtu, a_options, a_portion, a_is_master, a_seq, a_left, a_sent, a_own, a_other, a_stage, a_met, a_requests, u_is_master, u_seq, u_left, u_sent, u_stage, u_met, u_requests, n_begin, n_take, n_is_double, n_is_wrong, n_take_first, n_take_next, n_led, n_followed, n_ended, n_first, n_next_packet, n_has_told_all, m_begin, m_take, m_is_double, m_is_wrong, m_take_first, m_take_next, m_led, m_followed, m_ended, m_first, m_next_packet, m_has_told_all, glDescribing, glMASTER, glMORE, glINIT, glNUMBERS, glEXTERNAL, glGREATEST_KIND, glbarred, glkey_of, glExchange, gl_law_take, gl_law_heads, gl_law_is_mismatch, gllen, glabs, glsorted, gltuple, gllist, glrange, b_len_tup, b_len_lst, b_len_obj, b_abs, b_tuple, b_list, c_lt, c_gt, c_le, c_ge, c_eq, c_ne, c_bool, c_is0, c_is1, c_isn0, c_isn1, c_t3, n_and, n_or, n_add, n_sub, n_mod, n_cat, cut_hi, cut_lo, cut_25, c_Eq_exchange_exstart, c_Eq_exstart_exstart, c_Eq_exchange_exchange, c_Eq_full_full, c_Eq_loading_full, c_Eq__, c_Eq_loading_exchange, c_Eq_loading_exstart, c_NotEq_exchange_exstart, c_NotEq_exstart_exstart, c_NotEq_exchange_exchange, c_NotEq_full_full, c_NotEq_loading_full, c_NotEq__, c_NotEq_loading_exchange, c_NotEq_loading_exstart, ↓aput_0, ↓aput_s, ↓aput_n, l_get, l_set, t57, tk, tk7]
theorem b_list_obj (σ : St) (i : Nat) : biV σ (.type "list") [.obj i] = match σ[i]? with | some (.list l) => some (.lst l) | _ => none := by rfl
theorem t64 (P : Params) (n : Nat) {p : Nat} {m : Bool} {s : Int} {l : List V} {st : V} {own other : Int} {stage : String} {met : V} {rq : Nat} (σ T : St) (k : Nat) (hs : List V) (N : Int) (hk : ∀ A, (σ ++ .inst A :: T)[k]? = some (.list hs)) :
    callN (hd.heap_1 P) (n + 1) 64 [.obj σ.length, .int N, .obj k] (σ ++ .inst (tk p m s l st own other stage met rq) :: T) = some (pk 7 N [], σ ++ .inst (tk p true N hs (pk 7 N []) own other stage met rq) :: T) := by
  rw [callN_at (fd := _) rfl rfl rfl]
  have h1 : Builtin.bitOr 4 2 = 6 := by decide
  have h2 : Builtin.bitOr 6 1 = 7 := by decide
  simp (disch := first | assumption | decide +kernel | (simp [n_add, itemV, natOf]; done) | fail) [↓lam_t, ↓lk_talk, ↓nm_l, ↓nm_g, ↓put_s, ↓put_n, ↓binds_s, ↓binds_n, ↓w_name, ↓mut_f, ↓mut_t, ↓base_t, evB, evS, evE, evEs, evP, evO, evT, evA, evW, evWs, truth, natOf, itemV, tk_len, swap_na, noTop, itemsV, intsV, g_mtu, g_options, g_portion, g_is_master, g_seq, g_left, g_sent, g_own, g_other, g_stage, g_met, g_requests, a_mtu, a_options, a_portion, a_is_master, a_seq, a_left, a_sent, a_own, a_other, a_stage, a_met, a_requests, u_is_master, u_seq, u_left, u_sent, u_stage, u_met, u_requests, n_begin, n_take, n_is_double, n_is_wrong, n_take_first, n_take_next, n_led, n_followed, n_ended, n_first, n_next_packet, n_has_told_all, m_begin, m_take, m_is_double, m_is_wrong, m_take_first, m_take_next, m_led, m_followed, m_ended, m_first, m_next_packet, m_has_told_all, glDescribing, glMASTER, glMORE, glINIT, glNUMBERS, glEXTERNAL, glGREATEST_KIND, glbarred, glkey_of, glExchange, gl_law_take, gl_law_heads, gl_law_is_mismatch, gllen, glabs, glsorted, gltuple, gllist, glrange, b_len_tup, b_len_lst, b_len_obj, b_abs, b_tuple, b_list, c_lt, c_gt, c_le, c_ge, c_eq, c_ne, c_bool, c_is0, c_is1, c_isn0, c_isn1, c_t3, n_and, n_or, n_add, n_sub, n_mod, n_cat, cut_hi, cut_lo, cut_25, c_Eq_exchange_exstart, c_Eq_exstart_exstart, c_Eq_exchange_exchange, c_Eq_full_full, c_Eq_loading_full, c_Eq__, c_Eq_loading_exchange, c_Eq_loading_exstart, c_NotEq_exchange_exstart, c_NotEq_exstart_exstart, c_NotEq_exchange_exchange, c_NotEq_full_full, c_NotEq_loading_full, c_NotEq__, c_NotEq_loading_exchange, c_NotEq_loading_exstart, l_get, l_set, b_list_obj, hk, h1, h2]
theorem t106 (P : Params) (n : Nat) {p : Nat} {m : Bool} {s : Int} {l : List V} {st : V} {own other : Int} {stage : String} {met : V} {rq : Nat} (σ T : St) (k : Nat) (hs : List V) (N : Int) (hk : ∀ A, (σ ++ .inst A :: (T ++ [.dict []]))[k]? = some (.list hs)) :
    callN (hd.heap_1 P) (n + 2) 106 [.obj σ.length, .int N, .obj k] (σ ++ .inst (tk p m s l st own other stage met rq) :: T) = some (pk 7 N [], σ ++ .inst (tk p true N hs (pk 7 N []) own other "exstart" .none (σ.length + (T.length + 1))) :: (T ++ [.dict []])) := by
  rw [callN_at (fd := _) rfl rfl rfl]
  simp (disch := first | assumption | decide +kernel | (simp [n_add, itemV, natOf]; done) | fail) [↓lam_t, ↓lk_talk, ↓nm_l, ↓nm_g, ↓put_s, ↓put_n, ↓binds_s, ↓binds_n, ↓w_name, ↓mut_f, ↓mut_t, ↓base_t, evB, evS, evE, evEs, evP, evO, evT, evA, evW, evWs, truth, natOf, itemV, tk_len, swap_na, noTop, itemsV, intsV, g_mtu, g_options, g_portion, g_is_master, g_seq, g_left, g_sent, g_own, g_other, g_stage, g_met, g_requests, a_mtu, a_options, a_portion, a_is_master, a_seq, a_left, a_sent, a_own, a_other, a_stage, a_met, a_requests, u_is_master, u_seq, u_left, u_sent, u_stage, u_met, u_requests, n_begin, n_take, n_is_double, n_is_wrong, n_take_first, n_take_next, n_led, n_followed, n_ended, n_first, n_next_packet, n_has_told_all, m_begin, m_take, m_is_double, m_is_wrong, m_take_first, m_take_next, m_led, m_followed, m_ended, m_first, m_next_packet, m_has_told_all, glDescribing, glMASTER, glMORE, glINIT, glNUMBERS, glEXTERNAL, glGREATEST_KIND, glbarred, glkey_of, glExchange, gl_law_take, gl_law_heads, gl_law_is_mismatch, gllen, glabs, glsorted, gltuple, gllist, glrange, b_len_tup, b_len_lst, b_len_obj, b_abs, b_tuple, b_list, c_lt, c_gt, c_le, c_ge, c_eq, c_ne, c_bool, c_is0, c_is1, c_isn0, c_isn1, c_t3, n_and, n_or, n_add, n_sub, n_mod, n_cat, cut_hi, cut_lo, cut_25, c_Eq_exchange_exstart, c_Eq_exstart_exstart, c_Eq_exchange_exchange, c_Eq_full_full, c_Eq_loading_full, c_Eq__, c_Eq_loading_exchange, c_Eq_loading_exstart, c_NotEq_exchange_exstart, c_NotEq_exstart_exstart, c_NotEq_exchange_exchange, c_NotEq_full_full, c_NotEq_loading_full, c_NotEq__, c_NotEq_loading_exchange, c_NotEq_loading_exstart, l_get, l_set, t64 P n σ (T ++ [.dict []]) k hs N hk]
end Mine

end
section
open PySem PySem.W PyProof.Rows
set_option Elab.async false
set_option maxRecDepth 100000
set_option maxHeartbeats 8000000
set_option linter.unusedSimpArgs false
namespace Mine
def rowsI (first : Int) (m : Nat) : List Int := (List.range m).map fun (i : Nat) => first + (i : Int)
theorem l_getL (σ : St) (l : List V) (T : St) : (σ ++ .list l :: T)[σ.length]? = some (.list l) := by simp
theorem l_setL (σ : St) (l l' : List V) (T : St) : (σ ++ .list l :: T).set σ.length (.list l') = σ ++ .list l' :: T := by simp
theorem b_range (σ : St) (k : Nat) : biV σ (.type "range") [.int (k : Int)] = if k ≤ 100 then some (.rng k) else none := by rfl
theorem loopC_at (f : V → St → Option (Option V × St)) (it : V) (k fuel i : Nat) (σ : St) : loopC f it k (fuel + 1) i σ = match getAt σ it i with
    | none => none
    | some none => some (.obj k, σ)
    | some (some v) => match f v σ with
      | some (some u, σ') => match σ'[k]? with
        | some (.list l) => if l.length < 1000 then loopC f it k fuel (i + 1) (σ'.set k (.list (l ++ [u]))) else none
        | _ => none
      | some (none, σ') => loopC f it k fuel (i + 1) σ'
      | none => none := rfl
theorem loopC_rng' (g : Nat → V) {f : V → St → Option (Option V × St)} {m : Nat} (σ : St) (hf : ∀ (i : Nat) σ, f (.int i) σ = some (some (g i), σ)) (hm : m ≤ 100) : ∀ (r i fuel : Nat), i + r = m → r < fuel → loopC f (.rng m) σ.length fuel i (σ ++ [.list ((List.range i).map g)]) = some (.obj σ.length, σ ++ [.list ((List.range m).map g)])
  | r, i, 0, _, h => absurd h (Nat.not_lt_zero _)
  | 0, i, fuel + 1, h, _ => by
    rw [loopC_at]
    have e : ¬ i < m := by omega
    simp only [getAt, e, if_false]
    rw [show i = m by omega]
  | r + 1, i, fuel + 1, h, hl => by
    rw [loopC_at]
    have e : i < m := by omega
    simp only [getAt, e, if_true]
    rw [show V.int (Int.ofNat i) = V.int (i : Int) from rfl, hf]
    dsimp only
    rw [l_getL, ]
    dsimp only
    rw [if_pos (by simp; omega), l_setL]
    have k := loopC_rng' g σ hf hm r (i + 1) fuel (by omega) (by omega)
    rw [List.range_succ, List.map_append] at k
    exact k
theorem loopC_rng (g : Nat → V) {f : V → St → Option (Option V × St)} {m : Nat} (σ : St) (hf : ∀ (i : Nat) σ, f (.int i) σ = some (some (g i), σ)) (hm : m ≤ 100) : loopC f (.rng m) σ.length 1001 0 (σ ++ [.list []]) = some (.obj σ.length, σ ++ [.list ((List.range m).map g)]) :=
  loopC_rng' g σ hf hm m 0 1001 (by omega) (by omega)
theorem t205 (P : Params) (n : Nat) (first : Int) (σ : St) (m : Nat) (hm : m ≤ 100) : callN (hd.heap_1 P) (n + 1) 205 [.int first, .int m] σ = some (.obj σ.length, σ ++ [.list ((rowsI first m).map hdv)]) := by
  rw [callN_at (fd := _) rfl rfl rfl]
  simp (disch := first | assumption | decide +kernel | (simp [n_add, itemV, natOf]; done) | fail) [↓lam_t, ↓lk_talk, ↓nm_l, ↓nm_g, ↓put_s, ↓put_n, ↓binds_s, ↓binds_n, ↓w_name, ↓mut_f, ↓mut_t, ↓base_t, evB, evS, evE, evEs, evP, evO, evT, evA, evW, evWs, truth, natOf, itemV, tk_len, swap_na, noTop, itemsV, intsV, g_mtu, g_options, g_portion, g_is_master, g_seq, g_left, g_sent, g_own, g_other, g_stage, g_met, g_requests, a_mtu, a_options, a_portion, a_is_master, a_seq, a_left, a_sent, a_own, a_other, a_stage, a_met, a_requests, u_is_master, u_seq, u_left, u_sent, u_stage, u_met, u_requests, n_begin, n_take, n_is_double, n_is_wrong, n_take_first, n_take_next, n_led, n_followed, n_ended, n_first, n_next_packet, n_has_told_all, m_begin, m_take, m_is_double, m_is_wrong, m_take_first, m_take_next, m_led, m_followed, m_ended, m_first, m_next_packet, m_has_told_all, glDescribing, glMASTER, glMORE, glINIT, glNUMBERS, glEXTERNAL, glGREATEST_KIND, glbarred, glkey_of, glExchange, gl_law_take, gl_law_heads, gl_law_is_mismatch, gllen, glabs, glsorted, gltuple, gllist, glrange, b_len_tup, b_len_lst, b_len_obj, b_abs, b_tuple, b_list, c_lt, c_gt, c_le, c_ge, c_eq, c_ne, c_bool, c_is0, c_is1, c_isn0, c_isn1, c_t3, n_and, n_or, n_add, n_sub, n_mod, n_cat, cut_hi, cut_lo, cut_25, c_Eq_exchange_exstart, c_Eq_exstart_exstart, c_Eq_exchange_exchange, c_Eq_full_full, c_Eq_loading_full, c_Eq__, c_Eq_loading_exchange, c_Eq_loading_exstart, c_NotEq_exchange_exstart, c_NotEq_exstart_exstart, c_NotEq_exchange_exchange, c_NotEq_full_full, c_NotEq_loading_full, c_NotEq__, c_NotEq_loading_exchange, c_NotEq_loading_exstart, ↓comp_t, ↓inner_s, ↓inner_f, tgt, evG, evI, getAt, lfuel, b_range, rowsI, loopC_rng (fun i => hdv (first + i)), hm]
end Mine

end
section
open PySem PySem.W PyProof.Rows
set_option Elab.async false
set_option maxRecDepth 100000
set_option maxHeartbeats 8000000
set_option linter.unusedSimpArgs false
namespace Mine
theorem nat_succ_sub (k : Nat) : natOf (.int ((k : Int) + 1 - 1)) = some k := by rw [Int.add_sub_cancel]; rfl
theorem t200 (P : Params) (n : Nat) (xs : List Int) (T : St) (k m : Nat) (hk : k < 5) (hm : 0 < m) : ∃ d : Nat, d < m ∧ callN (hd.heap_1 P) (n + 1) 200 [.obj 0, .int m] (.list [.lst (xs.map V.int), .int k] :: T) = some (.int d, .list [.lst (xs.map V.int), .int ((k : Int) + 1)] :: T) := by
  have hm0 : ¬ m = 0 := by omega
  have hk0 : (0 : Int) ≤ (k : Int) + 1 := by omega
  have hk1 : (k : Int) + 1 < 1000 := by omega
  cases hx : xs[k]? with
  | none =>
    have h : ¬ (k : Int) + 1 ≤ xs.length := by have := List.getElem?_eq_none_iff.mp hx; omega
    have e : (3 * ((k : Int) + 1) + ((k : Int) + 1).fdiv 4).fmod m = ((3 * (k + 1) + (k + 1) / 4) % m : Nat) := by
      rw [Int.fmod_eq_emod_of_nonneg _ (by omega), Int.fdiv_eq_ediv_of_nonneg _ (by decide)]; simp
    refine ⟨(3 * (k + 1) + (k + 1) / 4) % m, Nat.mod_lt _ hm, ?_⟩
    rw [callN_at (fd := _) rfl rfl rfl, ← e]
    simp (disch := first | assumption | decide +kernel | (simp [n_add, itemV, natOf]; done) | fail) [↓lam_t, ↓lk_talk, ↓nm_l, ↓nm_g, ↓put_s, ↓put_n, ↓binds_s, ↓binds_n, ↓w_name, ↓mut_f, ↓mut_t, ↓base_t, evB, evS, evE, evEs, evP, evO, evT, evA, evW, evWs, truth, natOf, itemV, tk_len, swap_na, noTop, itemsV, intsV, g_mtu, g_options, g_portion, g_is_master, g_seq, g_left, g_sent, g_own, g_other, g_stage, g_met, g_requests, a_mtu, a_options, a_portion, a_is_master, a_seq, a_left, a_sent, a_own, a_other, a_stage, a_met, a_requests, u_is_master, u_seq, u_left, u_sent, u_stage, u_met, u_requests, n_begin, n_take, n_is_double, n_is_wrong, n_take_first, n_take_next, n_led, n_followed, n_ended, n_first, n_next_packet, n_has_told_all, m_begin, m_take, m_is_double, m_is_wrong, m_take_first, m_take_next, m_led, m_followed, m_ended, m_first, m_next_packet, m_has_told_all, glDescribing, glMASTER, glMORE, glINIT, glNUMBERS, glEXTERNAL, glGREATEST_KIND, glbarred, glkey_of, glExchange, gl_law_take, gl_law_heads, gl_law_is_mismatch, gllen, glabs, glsorted, gltuple, gllist, glrange, b_len_tup, b_len_lst, b_len_obj, b_abs, b_tuple, b_list, c_lt, c_gt, c_le, c_ge, c_eq, c_ne, c_bool, c_is0, c_is1, c_isn0, c_isn1, c_t3, n_and, n_or, n_add, n_sub, n_mod, n_cat, cut_hi, cut_lo, cut_25, c_Eq_exchange_exstart, c_Eq_exstart_exstart, c_Eq_exchange_exchange, c_Eq_full_full, c_Eq_loading_full, c_Eq__, c_Eq_loading_exchange, c_Eq_loading_exstart, c_NotEq_exchange_exstart, c_NotEq_exstart_exstart, c_NotEq_exchange_exchange, c_NotEq_full_full, c_NotEq_loading_full, c_NotEq__, c_NotEq_loading_exchange, c_NotEq_loading_exstart, hx, h, binV, hm0, hk0, hk1, -Int.natCast_emod]
  | some x =>
    have h : (k : Int) + 1 ≤ xs.length := by have := (List.getElem?_eq_some_iff.mp hx).1; omega
    have e : (x.natAbs : Int).fmod m = (x.natAbs % m : Nat) := by
      rw [Int.fmod_eq_emod_of_nonneg _ (by omega)]; simp
    refine ⟨x.natAbs % m, Nat.mod_lt _ hm, ?_⟩
    rw [callN_at (fd := _) rfl rfl rfl, ← e]
    simp (disch := first | assumption | decide +kernel | (simp [n_add, itemV, natOf]; done) | fail) [↓lam_t, ↓lk_talk, ↓nm_l, ↓nm_g, ↓put_s, ↓put_n, ↓binds_s, ↓binds_n, ↓w_name, ↓mut_f, ↓mut_t, ↓base_t, evB, evS, evE, evEs, evP, evO, evT, evA, evW, evWs, truth, natOf, itemV, tk_len, swap_na, noTop, itemsV, intsV, g_mtu, g_options, g_portion, g_is_master, g_seq, g_left, g_sent, g_own, g_other, g_stage, g_met, g_requests, a_mtu, a_options, a_portion, a_is_master, a_seq, a_left, a_sent, a_own, a_other, a_stage, a_met, a_requests, u_is_master, u_seq, u_left, u_sent, u_stage, u_met, u_requests, n_begin, n_take, n_is_double, n_is_wrong, n_take_first, n_take_next, n_led, n_followed, n_ended, n_first, n_next_packet, n_has_told_all, m_begin, m_take, m_is_double, m_is_wrong, m_take_first, m_take_next, m_led, m_followed, m_ended, m_first, m_next_packet, m_has_told_all, glDescribing, glMASTER, glMORE, glINIT, glNUMBERS, glEXTERNAL, glGREATEST_KIND, glbarred, glkey_of, glExchange, gl_law_take, gl_law_heads, gl_law_is_mismatch, gllen, glabs, glsorted, gltuple, gllist, glrange, b_len_tup, b_len_lst, b_len_obj, b_abs, b_tuple, b_list, c_lt, c_gt, c_le, c_ge, c_eq, c_ne, c_bool, c_is0, c_is1, c_isn0, c_isn1, c_t3, n_and, n_or, n_add, n_sub, n_mod, n_cat, cut_hi, cut_lo, cut_25, c_Eq_exchange_exstart, c_Eq_exstart_exstart, c_Eq_exchange_exchange, c_Eq_full_full, c_Eq_loading_full, c_Eq__, c_Eq_loading_exchange, c_Eq_loading_exstart, c_NotEq_exchange_exstart, c_NotEq_exstart_exstart, c_NotEq_exchange_exchange, c_NotEq_full_full, c_NotEq_loading_full, c_NotEq__, c_NotEq_loading_exchange, c_NotEq_loading_exstart, hx, h, binV, hm0, nat_succ_sub]
theorem t200_0 (P : Params) (n : Nat) (xs : List Int) (T : St) : ∃ d : Nat, d < 5 ∧ callN (hd.heap_1 P) (n + 1) 200 [.obj 0, .int 5] (.list [.lst (xs.map V.int), .int 0] :: T) = some (.int d, .list [.lst (xs.map V.int), .int 1] :: T) := t200 P n xs T 0 5 (by decide) (by decide)
theorem t200_1 (P : Params) (n : Nat) (xs : List Int) (T : St) : ∃ d : Nat, d < 6 ∧ callN (hd.heap_1 P) (n + 1) 200 [.obj 0, .int 6] (.list [.lst (xs.map V.int), .int 1] :: T) = some (.int d, .list [.lst (xs.map V.int), .int 2] :: T) := t200 P n xs T 1 6 (by decide) (by decide)
theorem t200_2 (P : Params) (n : Nat) (xs : List Int) (T : St) : ∃ d : Nat, d < 6 ∧ callN (hd.heap_1 P) (n + 1) 200 [.obj 0, .int 6] (.list [.lst (xs.map V.int), .int 2] :: T) = some (.int d, .list [.lst (xs.map V.int), .int 3] :: T) := t200 P n xs T 2 6 (by decide) (by decide)
theorem t200_3 (P : Params) (n : Nat) (xs : List Int) (T : St) : ∃ d : Nat, d < 3 ∧ callN (hd.heap_1 P) (n + 1) 200 [.obj 0, .int 3] (.list [.lst (xs.map V.int), .int 3] :: T) = some (.int d, .list [.lst (xs.map V.int), .int 4] :: T) := t200 P n xs T 3 3 (by decide) (by decide)
theorem t200_4 (P : Params) (n : Nat) (xs : List Int) (T : St) : ∃ d : Nat, d < 3 ∧ callN (hd.heap_1 P) (n + 1) 200 [.obj 0, .int 3] (.list [.lst (xs.map V.int), .int 4] :: T) = some (.int d, .list [.lst (xs.map V.int), .int 5] :: T) := t200 P n xs T 4 3 (by decide) (by decide)
section
variable {F : List (Str × V) → List (List Int × V) → St} {i j : Nat} (O : Own F i j) (P : Params) (n : Nat)
  {p : Nat} {m : Bool} {s : Int} {l : List V} {st : V} {own other : Int} {stage : String} {met : V} {rq : Nat} {R : List (List Int × V)}
include O
theorem t120b (b s₁ b' s₂ : Int) (t t' : List V) (h : b ≠ b') :
   callN (hd.heap_1 P) (n + 1) 120 [.obj i, pk b s₁ t] (F (tk p m s l st own other stage (pk b' s₂ t') rq) R) = some (.bool false, F (tk p m s l st own other stage (pk b' s₂ t') rq) R) := by
  rw [callN_at (fd := _) rfl rfl rfl]
  simp (disch := first | assumption | decide +kernel | (simp [n_add, itemV, natOf]; done) | fail) [↓lam_t, ↓lk_talk, ↓nm_l, ↓nm_g, ↓put_s, ↓put_n, ↓binds_s, ↓binds_n, ↓w_name, ↓mut_f, ↓mut_t, ↓base_t, evB, evS, evE, evEs, evP, evO, evT, evA, evW, evWs, truth, natOf, itemV, tk_len, swap_na, noTop, itemsV, intsV, g_mtu, g_options, g_portion, g_is_master, g_seq, g_left, g_sent, g_own, g_other, g_stage, g_met, g_requests, a_mtu, a_options, a_portion, a_is_master, a_seq, a_left, a_sent, a_own, a_other, a_stage, a_met, a_requests, u_is_master, u_seq, u_left, u_sent, u_stage, u_met, u_requests, n_begin, n_take, n_is_double, n_is_wrong, n_take_first, n_take_next, n_led, n_followed, n_ended, n_first, n_next_packet, n_has_told_all, m_begin, m_take, m_is_double, m_is_wrong, m_take_first, m_take_next, m_led, m_followed, m_ended, m_first, m_next_packet, m_has_told_all, glDescribing, glMASTER, glMORE, glINIT, glNUMBERS, glEXTERNAL, glGREATEST_KIND, glbarred, glkey_of, glExchange, gl_law_take, gl_law_heads, gl_law_is_mismatch, gllen, glabs, glsorted, gltuple, gllist, glrange, b_len_tup, b_len_lst, b_len_obj, b_abs, b_tuple, b_list, c_lt, c_gt, c_le, c_ge, c_eq, c_ne, c_bool, c_is0, c_is1, c_isn0, c_isn1, c_t3, n_and, n_or, n_add, n_sub, n_mod, n_cat, cut_hi, cut_lo, cut_25, c_Eq_exchange_exstart, c_Eq_exstart_exstart, c_Eq_exchange_exchange, c_Eq_full_full, c_Eq_loading_full, c_Eq__, c_Eq_loading_exchange, c_Eq_loading_exstart, c_NotEq_exchange_exstart, c_NotEq_exstart_exstart, c_NotEq_exchange_exchange, c_NotEq_full_full, c_NotEq_loading_full, c_NotEq__, c_NotEq_loading_exchange, c_NotEq_loading_exstart, O.gi, O.si, O.gj, O.sj, pk, h]
theorem t127m (x b' s' : Int) (t t' : List V) :
   callN (hd.heap_1 P) (n + 1) 127 [.obj i, pk 3 x t] (F (tk p false s l st own other stage (pk b' s' t') rq) R) = some (.bool (!decide (x = nx s)), F (tk p false s l st own other stage (pk b' s' t') rq) R) := by
  rw [callN_at (fd := _) rfl rfl rfl]
  have h1 : Builtin.bitAnd 3 4 = 0 := by decide
  have h3 : Builtin.bitAnd 3 1 = 1 := by decide
  simp (disch := first | assumption | decide +kernel | (simp [n_add, itemV, natOf]; done) | fail) [↓lam_t, ↓lk_talk, ↓nm_l, ↓nm_g, ↓put_s, ↓put_n, ↓binds_s, ↓binds_n, ↓w_name, ↓mut_f, ↓mut_t, ↓base_t, evB, evS, evE, evEs, evP, evO, evT, evA, evW, evWs, truth, natOf, itemV, tk_len, swap_na, noTop, itemsV, intsV, g_mtu, g_options, g_portion, g_is_master, g_seq, g_left, g_sent, g_own, g_other, g_stage, g_met, g_requests, a_mtu, a_options, a_portion, a_is_master, a_seq, a_left, a_sent, a_own, a_other, a_stage, a_met, a_requests, u_is_master, u_seq, u_left, u_sent, u_stage, u_met, u_requests, n_begin, n_take, n_is_double, n_is_wrong, n_take_first, n_take_next, n_led, n_followed, n_ended, n_first, n_next_packet, n_has_told_all, m_begin, m_take, m_is_double, m_is_wrong, m_take_first, m_take_next, m_led, m_followed, m_ended, m_first, m_next_packet, m_has_told_all, glDescribing, glMASTER, glMORE, glINIT, glNUMBERS, glEXTERNAL, glGREATEST_KIND, glbarred, glkey_of, glExchange, gl_law_take, gl_law_heads, gl_law_is_mismatch, gllen, glabs, glsorted, gltuple, gllist, glrange, b_len_tup, b_len_lst, b_len_obj, b_abs, b_tuple, b_list, c_lt, c_gt, c_le, c_ge, c_eq, c_ne, c_bool, c_is0, c_is1, c_isn0, c_isn1, c_t3, n_and, n_or, n_add, n_sub, n_mod, n_cat, cut_hi, cut_lo, cut_25, c_Eq_exchange_exstart, c_Eq_exstart_exstart, c_Eq_exchange_exchange, c_Eq_full_full, c_Eq_loading_full, c_Eq__, c_Eq_loading_exchange, c_Eq_loading_exstart, c_NotEq_exchange_exstart, c_NotEq_exstart_exstart, c_NotEq_exchange_exchange, c_NotEq_full_full, c_NotEq_loading_full, c_NotEq__, c_NotEq_loading_exchange, c_NotEq_loading_exstart, swap2, swap3, fo_sub, fo_call, fo_list, co_if, co_call, co_name, co_sub, st_sub, st_call, st_list, st_if, st_name, putAll, O.gi, O.si, O.gj, O.sj, pk, h1, h3]
theorem t113m {x s' : Int} (hx : x ≠ nx s) :
    callN (hd.heap_1 P) (n + 5) 113 [.obj i, pk 3 x [], .lam, .bool false] (F (tk p false s l st own other "exchange" (pk 7 s' []) j) R) = some (.tup [.lst [.str (Str.ofString "mismatch")], .lst []], F (tk p false s l st own other "exchange" (pk 7 s' []) j) R) := by
  rw [callN_at (fd := _) rfl rfl rfl]
  have d := t120b O P (n + 3) (rq := j) (m := false) (s := s) (p := p) (l := l) (st := st) (own := own) (other := other) (stage := "exchange") (R := R) 3 x 7 s' [] [] (by decide)
  have w := t127m O P (n + 3) (rq := j) (s := s) (p := p) (l := l) (st := st) (own := own) (other := other) (stage := "exchange") (R := R) x 7 s' [] []
  rw [decide_eq_false hx] at w
  simp only [pk, Bool.not_false] at d w
  simp (disch := first | assumption | decide +kernel | (simp [n_add, itemV, natOf]; done) | fail) [↓lam_t, ↓lk_talk, ↓nm_l, ↓nm_g, ↓put_s, ↓put_n, ↓binds_s, ↓binds_n, ↓w_name, ↓mut_f, ↓mut_t, ↓base_t, evB, evS, evE, evEs, evP, evO, evT, evA, evW, evWs, truth, natOf, itemV, tk_len, swap_na, noTop, itemsV, intsV, g_mtu, g_options, g_portion, g_is_master, g_seq, g_left, g_sent, g_own, g_other, g_stage, g_met, g_requests, a_mtu, a_options, a_portion, a_is_master, a_seq, a_left, a_sent, a_own, a_other, a_stage, a_met, a_requests, u_is_master, u_seq, u_left, u_sent, u_stage, u_met, u_requests, n_begin, n_take, n_is_double, n_is_wrong, n_take_first, n_take_next, n_led, n_followed, n_ended, n_first, n_next_packet, n_has_told_all, m_begin, m_take, m_is_double, m_is_wrong, m_take_first, m_take_next, m_led, m_followed, m_ended, m_first, m_next_packet, m_has_told_all, glDescribing, glMASTER, glMORE, glINIT, glNUMBERS, glEXTERNAL, glGREATEST_KIND, glbarred, glkey_of, glExchange, gl_law_take, gl_law_heads, gl_law_is_mismatch, gllen, glabs, glsorted, gltuple, gllist, glrange, b_len_tup, b_len_lst, b_len_obj, b_abs, b_tuple, b_list, c_lt, c_gt, c_le, c_ge, c_eq, c_ne, c_bool, c_is0, c_is1, c_isn0, c_isn1, c_t3, n_and, n_or, n_add, n_sub, n_mod, n_cat, cut_hi, cut_lo, cut_25, c_Eq_exchange_exstart, c_Eq_exstart_exstart, c_Eq_exchange_exchange, c_Eq_full_full, c_Eq_loading_full, c_Eq__, c_Eq_loading_exchange, c_Eq_loading_exstart, c_NotEq_exchange_exstart, c_NotEq_exstart_exstart, c_NotEq_exchange_exchange, c_NotEq_full_full, c_NotEq_loading_full, c_NotEq__, c_NotEq_loading_exchange, c_NotEq_loading_exstart, swap2, swap3, fo_sub, fo_call, fo_list, co_if, co_call, co_name, co_sub, st_sub, st_call, st_list, st_if, st_name, putAll, O.gi, O.si, O.gj, O.sj, d, w]
theorem t113n {s' : Int} (hl : l.drop p = []) :
    callN (hd.heap_1 P) (n + 5) 113 [.obj i, pk 3 (nx s) [], .lam, .bool false] (F (tk p false s l st own other "exchange" (pk 7 s' []) j) []) = some (.tup [.lst [], .lst [pk 0 (nx s) (l.take p)]], F (tk p false (nx s) [] (pk 0 (nx s) (l.take p)) own other "exchange" (pk 3 (nx s) []) j) []) := by
  rw [callN_at (fd := _) rfl rfl rfl]
  have h3 : ¬ Builtin.bitAnd 3 2 = 0 := by decide
  have d := t120b O P (n + 3) (rq := j) (m := false) (s := s) (p := p) (l := l) (st := st) (own := own) (other := other) (stage := "exchange") (R := []) 3 (nx s) 7 s' [] [] (by decide)
  have w := t127m O P (n + 3) (rq := j) (s := s) (p := p) (l := l) (st := st) (own := own) (other := other) (stage := "exchange") (R := []) (nx s) 7 s' [] []
  rw [decide_eq_true rfl] at w
  have k := t141 (l := l) (p := p) (s := s) (st := st) (own := own) (other := other) (stage := "exchange") (met := pk 7 s' []) (m := false) O P (n + 1) (b := 3) (ps := nx s) (c := []) (Z := []) (ev := []) (by simp) (by simp) (t155b O P (n + 1) 3 (nx s) _ [] (fun q => h3 q.2) (by simp))
  rw [hl] at k
  simp only [List.map_nil, List.nil_append, bts] at k
  simp only [pk, Bool.not_true] at d w k
  simp (disch := first | assumption | decide +kernel | (simp [n_add, itemV, natOf]; done) | fail) [↓lam_t, ↓lk_talk, ↓nm_l, ↓nm_g, ↓put_s, ↓put_n, ↓binds_s, ↓binds_n, ↓w_name, ↓mut_f, ↓mut_t, ↓base_t, evB, evS, evE, evEs, evP, evO, evT, evA, evW, evWs, truth, natOf, itemV, tk_len, swap_na, noTop, itemsV, intsV, g_mtu, g_options, g_portion, g_is_master, g_seq, g_left, g_sent, g_own, g_other, g_stage, g_met, g_requests, a_mtu, a_options, a_portion, a_is_master, a_seq, a_left, a_sent, a_own, a_other, a_stage, a_met, a_requests, u_is_master, u_seq, u_left, u_sent, u_stage, u_met, u_requests, n_begin, n_take, n_is_double, n_is_wrong, n_take_first, n_take_next, n_led, n_followed, n_ended, n_first, n_next_packet, n_has_told_all, m_begin, m_take, m_is_double, m_is_wrong, m_take_first, m_take_next, m_led, m_followed, m_ended, m_first, m_next_packet, m_has_told_all, glDescribing, glMASTER, glMORE, glINIT, glNUMBERS, glEXTERNAL, glGREATEST_KIND, glbarred, glkey_of, glExchange, gl_law_take, gl_law_heads, gl_law_is_mismatch, gllen, glabs, glsorted, gltuple, gllist, glrange, b_len_tup, b_len_lst, b_len_obj, b_abs, b_tuple, b_list, c_lt, c_gt, c_le, c_ge, c_eq, c_ne, c_bool, c_is0, c_is1, c_isn0, c_isn1, c_t3, n_and, n_or, n_add, n_sub, n_mod, n_cat, cut_hi, cut_lo, cut_25, c_Eq_exchange_exstart, c_Eq_exstart_exstart, c_Eq_exchange_exchange, c_Eq_full_full, c_Eq_loading_full, c_Eq__, c_Eq_loading_exchange, c_Eq_loading_exstart, c_NotEq_exchange_exstart, c_NotEq_exstart_exstart, c_NotEq_exchange_exchange, c_NotEq_full_full, c_NotEq_loading_full, c_NotEq__, c_NotEq_loading_exchange, c_NotEq_loading_exstart, swap2, swap3, fo_sub, fo_call, fo_list, co_if, co_call, co_name, co_sub, st_sub, st_call, st_list, st_if, st_name, putAll, O.gi, O.si, O.gj, O.sj, d, w, k]
end
end Mine

end
section
open PySem PySem.W PyProof.Rows
set_option Elab.async false
set_option maxRecDepth 100000
set_option maxHeartbeats 8000000
set_option linter.unusedSimpArgs false
namespace Mine
def FM (σ : St) (hs : List V) : List (Str × V) → List (List Int × V) → St := fun A R => σ ++ [.inst A, .dict [], .list hs, .dict R]
theorem FM_own (σ : St) (hs : List V) : Own (FM σ hs) σ.length (σ.length + 3) := ⟨by simp [FM], by simp [FM], by simp [FM], by simp [FM]⟩
theorem c_mm1 (σ : St) : cmpV σ .Eq (.lst [.str (Str.ofString "mismatch")]) (.lst [.str (Str.ofString "mismatch")]) = some true := by kernel_rfl
theorem c_mm0 (σ : St) : cmpV σ .Eq (.lst []) (.lst [.str (Str.ofString "mismatch")]) = some false := by kernel_rfl
theorem t212 (P : Params) (n : Nat) (N x : Int) (σ : St) : ∃ T, callN (hd.heap_1 P) (n + 6) 212 [pk 7 N [], .int x] σ = some (.bool (!decide (x = nx N)), σ ++ T) := by
  have O := FM_own σ [hdv 10, hdv 11]
  have i99 : callN (hd.heap_1 P) (n + 5) 99 [.obj σ.length, .int 5, .int 9, .int 1500, .int 2, .int 1] (σ ++ [.inst []]) = some (.none, σ ++ [.inst (tk 1 true 0 [] .none 5 9 "exstart" .none (σ.length + 1)), .dict []]) := t99 P (n + 3) σ 1 5 9
  have i205 : ∀ a b, callN (hd.heap_1 P) (n + 5) 205 [.int 10, .int 2] (σ ++ [a, b]) = some (.obj (σ.length + 2), σ ++ [a, b, .list [hdv 10, hdv 11]]) := fun a b => by
    have h := t205 P (n + 4) 10 (σ ++ [a, b]) 2 (by decide)
    have e : (rowsI 10 2).map hdv = [hdv 10, hdv 11] := rfl
    rw [e] at h
    rw [List.append_assoc, List.length_append] at h
    exact h
  have i106 : callN (hd.heap_1 P) (n + 5) 106 [.obj σ.length, .int 40, .obj (σ.length + 2)] (σ ++ [.inst (tk 1 true 0 [] .none 5 9 "exstart" .none (σ.length + 1)), .dict [], .list [hdv 10, hdv 11]]) = some (pk 7 40 [], FM σ [hdv 10, hdv 11] (tk 1 true 40 [hdv 10, hdv 11] (pk 7 40 []) 5 9 "exstart" .none (σ.length + 3)) []) :=
    t106 P (n + 3) (p := 1) (m := true) (s := 0) (l := []) (st := .none) (own := 5) (other := 9) (stage := "exstart") (met := .none) (rq := σ.length + 1) σ [.dict [], .list [hdv 10, hdv 11]] (σ.length + 2) [hdv 10, hdv 11] 40 (fun A => by simp)
  have i1 := t113s O P n rfl (t134l O P n (p := 1) (s := 40) (l := [hdv 10, hdv 11]) (st := pk 7 40 []) (met := .none) N)
  by_cases hx : x = nx N
  · have i2 := t113n O P n (p := 1) (s := N) (l := [hdv 11]) (st := pk (bts false [hdv 11]) N [hdv 10]) (own := 5) (other := 9) (s' := N) rfl
    rw [decide_eq_true hx]
    subst hx
    simp only [pk, List.drop_succ_cons, List.drop_zero, List.take_succ_cons, List.take_zero, bts] at i1 i2
    refine ⟨[.inst (tk 1 false (nx N) [] (pk 0 (nx N) [hdv 11]) 5 9 "exchange" (pk 3 (nx N) []) (σ.length + 3)), .dict [], .list [hdv 10, hdv 11], .dict []], ?_⟩
    rw [callN_at (fd := _) rfl rfl rfl]
    simp (disch := first | assumption | decide +kernel | (simp [n_add, itemV, natOf]; done) | fail) [↓lam_t, ↓lk_talk, ↓nm_l, ↓nm_g, ↓put_s, ↓put_n, ↓binds_s, ↓binds_n, ↓w_name, ↓mut_f, ↓mut_t, ↓base_t, evB, evS, evE, evEs, evP, evO, evT, evA, evW, evWs, truth, natOf, itemV, tk_len, swap_na, noTop, itemsV, intsV, g_mtu, g_options, g_portion, g_is_master, g_seq, g_left, g_sent, g_own, g_other, g_stage, g_met, g_requests, a_mtu, a_options, a_portion, a_is_master, a_seq, a_left, a_sent, a_own, a_other, a_stage, a_met, a_requests, u_is_master, u_seq, u_left, u_sent, u_stage, u_met, u_requests, n_begin, n_take, n_is_double, n_is_wrong, n_take_first, n_take_next, n_led, n_followed, n_ended, n_first, n_next_packet, n_has_told_all, m_begin, m_take, m_is_double, m_is_wrong, m_take_first, m_take_next, m_led, m_followed, m_ended, m_first, m_next_packet, m_has_told_all, glDescribing, glMASTER, glMORE, glINIT, glNUMBERS, glEXTERNAL, glGREATEST_KIND, glbarred, glkey_of, glExchange, gl_law_take, gl_law_heads, gl_law_is_mismatch, gllen, glabs, glsorted, gltuple, gllist, glrange, b_len_tup, b_len_lst, b_len_obj, b_abs, b_tuple, b_list, c_lt, c_gt, c_le, c_ge, c_eq, c_ne, c_bool, c_is0, c_is1, c_isn0, c_isn1, c_t3, n_and, n_or, n_add, n_sub, n_mod, n_cat, cut_hi, cut_lo, cut_25, c_Eq_exchange_exstart, c_Eq_exstart_exstart, c_Eq_exchange_exchange, c_Eq_full_full, c_Eq_loading_full, c_Eq__, c_Eq_loading_exchange, c_Eq_loading_exstart, c_NotEq_exchange_exstart, c_NotEq_exstart_exstart, c_NotEq_exchange_exchange, c_NotEq_full_full, c_NotEq_loading_full, c_NotEq__, c_NotEq_loading_exchange, c_NotEq_loading_exstart, O.gi, O.si, O.gj, O.sj, i99, i205, i106, i1, i2, c_mm0]
    simp [FM]
  · have i2 := t113m O P n (R := []) (p := 1) (s := N) (l := [hdv 11]) (st := pk (bts false [hdv 11]) N [hdv 10]) (own := 5) (other := 9) (s' := N) hx
    rw [decide_eq_false hx]
    simp only [pk, List.drop_succ_cons, List.drop_zero, List.take_succ_cons, List.take_zero, bts] at i1 i2
    refine ⟨[.inst (tk 1 false N [hdv 11] (pk 2 N [hdv 10]) 5 9 "exchange" (pk 7 N []) (σ.length + 3)), .dict [], .list [hdv 10, hdv 11], .dict []], ?_⟩
    rw [callN_at (fd := _) rfl rfl rfl]
    simp (disch := first | assumption | decide +kernel | (simp [n_add, itemV, natOf]; done) | fail) [↓lam_t, ↓lk_talk, ↓nm_l, ↓nm_g, ↓put_s, ↓put_n, ↓binds_s, ↓binds_n, ↓w_name, ↓mut_f, ↓mut_t, ↓base_t, evB, evS, evE, evEs, evP, evO, evT, evA, evW, evWs, truth, natOf, itemV, tk_len, swap_na, noTop, itemsV, intsV, g_mtu, g_options, g_portion, g_is_master, g_seq, g_left, g_sent, g_own, g_other, g_stage, g_met, g_requests, a_mtu, a_options, a_portion, a_is_master, a_seq, a_left, a_sent, a_own, a_other, a_stage, a_met, a_requests, u_is_master, u_seq, u_left, u_sent, u_stage, u_met, u_requests, n_begin, n_take, n_is_double, n_is_wrong, n_take_first, n_take_next, n_led, n_followed, n_ended, n_first, n_next_packet, n_has_told_all, m_begin, m_take, m_is_double, m_is_wrong, m_take_first, m_take_next, m_led, m_followed, m_ended, m_first, m_next_packet, m_has_told_all, glDescribing, glMASTER, glMORE, glINIT, glNUMBERS, glEXTERNAL, glGREATEST_KIND, glbarred, glkey_of, glExchange, gl_law_take, gl_law_heads, gl_law_is_mismatch, gllen, glabs, glsorted, gltuple, gllist, glrange, b_len_tup, b_len_lst, b_len_obj, b_abs, b_tuple, b_list, c_lt, c_gt, c_le, c_ge, c_eq, c_ne, c_bool, c_is0, c_is1, c_isn0, c_isn1, c_t3, n_and, n_or, n_add, n_sub, n_mod, n_cat, cut_hi, cut_lo, cut_25, c_Eq_exchange_exstart, c_Eq_exstart_exstart, c_Eq_exchange_exchange, c_Eq_full_full, c_Eq_loading_full, c_Eq__, c_Eq_loading_exchange, c_Eq_loading_exstart, c_NotEq_exchange_exstart, c_NotEq_exstart_exstart, c_NotEq_exchange_exchange, c_NotEq_full_full, c_NotEq_loading_full, c_NotEq__, c_NotEq_loading_exchange, c_NotEq_loading_exstart, O.gi, O.si, O.gj, O.sj, i99, i205, i106, i1, i2, c_mm1]
    simp [FM]
end Mine

end
section
open PySem PySem.W PyProof.Rows
set_option Elab.async false
set_option maxRecDepth 100000
set_option maxHeartbeats 8000000
set_option linter.unusedSimpArgs false
namespace Mine
def S (o0 o1 o2 : MO) (A B : List (Str × V)) (R1 R2 : List (List Int × V)) (e1 e2 : List V) : St := [o0, o1, o2, .inst A, .dict [], .inst B, .dict [], .dict R1, .dict R2, .list e1, .list e2]
section
variable (o0 o1 o2 : MO) (A B : List (Str × V)) (R1 R2 : List (List Int × V)) (e1 e2 : List V)
theorem S_low : Own (fun A R => S o0 o1 o2 A B R R2 e1 e2) 3 7 := ⟨fun _ _ => rfl, fun _ _ _ => rfl, fun _ _ => rfl, fun _ _ _ => rfl⟩
theorem S_high : Own (fun B R => S o0 o1 o2 A B R1 R e1 e2) 5 8 := ⟨fun _ _ => rfl, fun _ _ _ => rfl, fun _ _ => rfl, fun _ _ _ => rfl⟩
theorem S_3 : (S o0 o1 o2 A B R1 R2 e1 e2)[3]? = some (.inst A) := rfl
theorem S_5 : (S o0 o1 o2 A B R1 R2 e1 e2)[5]? = some (.inst B) := rfl
theorem S_7 : (S o0 o1 o2 A B R1 R2 e1 e2)[7]? = some (.dict R1) := rfl
theorem S_8 : (S o0 o1 o2 A B R1 R2 e1 e2)[8]? = some (.dict R2) := rfl
theorem S_9 : (S o0 o1 o2 A B R1 R2 e1 e2)[9]? = some (.list e1) := rfl
theorem S_10 : (S o0 o1 o2 A B R1 R2 e1 e2)[10]? = some (.list e2) := rfl
theorem S_u9 (l : List V) : (S o0 o1 o2 A B R1 R2 e1 e2).set 9 (.list l) = S o0 o1 o2 A B R1 R2 l e2 := rfl
theorem S_u10 (l : List V) : (S o0 o1 o2 A B R1 R2 e1 e2).set 10 (.list l) = S o0 o1 o2 A B R1 R2 e1 l := rfl
end
theorem swap_call (sc : Scope) (ts : List Expr) (a : Expr) (b : List Expr) (c : List Keyword) (p : Pos) : swapS sc ts (.Call a b c p) = some none := by have h : swapS sc ts (.Call a b c p) = some none := rfl; rw [h]
def hdd (x : Int) : PyData := .tuple [.int 1, .int 2, .int 1, .int 0, .int x, .int 1, .int 7]
theorem pd_hd (σ : St) (x : Int) : pd σ (hdv x) = some (hdd x) := by rfl
theorem pds_hd (σ : St) : ∀ c : List Int, pds σ (c.map hdv) = some (c.map hdd)
  | [] => rfl
  | x :: c => by rw [List.map_cons, pds, pd_hd]; dsimp only; rw [pds_hd σ c]; rfl
theorem lay_hd : ∀ c : List Int, PyData.canLayAll0 (c.map hdd) = true
  | [] => rfl
  | x :: c => by rw [List.map_cons, PyData.canLayAll0, lay_hd c]; rfl
theorem dep_hd : ∀ c : List Int, PyData.depthAll (c.map hdd) ≤ 1
  | [] => by rw [List.map_nil, PyData.depthAll]; omega
  | x :: c => by
    rw [List.map_cons, PyData.depthAll]
    have h1 := dep_hd c
    have h2 : PyData.depth (hdd x) = 1 := rfl
    rw [h2]
    exact Nat.max_le.mpr ⟨Nat.le_refl _, h1⟩
theorem c_pk (σ : St) (b s : Int) (c : List Int) : cmpV σ .Eq (.lst [pk b s (c.map hdv)]) (.lst []) = some false := by
  have h1 : SeqAt.shaped (.list [.tuple [.str (Str.ofString "dd"), .int 1500, .int 2, .int b, .int s, .tuple (c.map hdd)]]) = true := by
    have k : Str.ofString "dd" = Str.ofString "dd" := rfl
    have ks : PyData.strOk (Str.ofString "dd") = true := by kernel_rfl
    have hc := dep_hd c
    unfold SeqAt.shaped
    simp only [PyData.canLay0, PyData.canLayAll0, lay_hd, ks, PyData.depth, PyData.depthAll, Bool.and_true, Bool.true_and, decide_eq_true_eq]
    have e : ∀ a b : Nat, max a b ≤ a + b := fun a b => Nat.max_le.mpr ⟨Nat.le_add_right _ _, Nat.le_add_left _ _⟩
    simp
    omega
  have h2 : SeqAt.shaped (.list []) = true := by rfl
  simp only [cmpV, pd, pds, pds_hd, h1, h2]
  rfl
theorem c_nil (σ : St) : cmpV σ .Eq (.lst []) (.lst []) = some true := by rfl
end Mine

end
section
open PySem PySem.W PyProof.Rows
set_option Elab.async false
set_option maxRecDepth 100000
set_option maxHeartbeats 8000000
set_option linter.unusedSimpArgs false
namespace Mine
theorem nx_ne {s : Int} (h : 0 ≤ s) (h' : s < 4294967296) : nx s ≠ s := by
  unfold nx
  rw [Int.fmod_eq_emod_of_nonneg _ (by decide)]
  omega
theorem nx_lo {s : Int} : 0 ≤ nx s ∧ nx s < 4294967296 := by
  unfold nx
  rw [Int.fmod_eq_emod_of_nonneg _ (by decide)]
  omega
theorem bt0 (l : List V) : bts false l = 0 ∨ bts false l = 2 := by cases l <;> simp [bts]
theorem bt1 (l : List V) : bts true l = 1 ∨ bts true l = 3 := by cases l <;> simp [bts]
section
variable (o0 o1 o2 : MO) {A B : List (Str × V)} {R1 R2 : List (List Int × V)} {e1 e2 : List V} (P : Params)
  {p : Nat} {s : Int} {l : List V} {st : V} {met : V}
theorem lowS (N : Int) : callN (hd.heap_1 P) 8 113 [.obj 3, pk 7 N [], .lam, .bool false] (S o0 o1 o2 (tk p true s l st 5 9 "exstart" met 7) B [] R2 e1 e2) =
    some (.tup [.lst [neg], .lst [pk (bts false (l.drop p)) N (l.take p)]], S o0 o1 o2 (tk p false N (l.drop p) (pk (bts false (l.drop p)) N (l.take p)) 5 9 "exchange" (pk 7 N []) 7) B [] R2 e1 e2) :=
  t113s (S_low o0 o1 o2 B R2 e1 e2) P 3 rfl (t134l (S_low o0 o1 o2 B R2 e1 e2) P 3 N)
theorem highS (b : Int) (c : List Int) (hb : b = 0 ∨ b = 2) (hn : c.Nodup) (hl : c.length < 1000) : callN (hd.heap_1 P) 8 113 [.obj 5, pk b s (c.map hdv), .lam, .bool false] (S o0 o1 o2 A (tk p true s l (pk 7 s []) 9 5 "exstart" met 8) R1 [] e1 e2) =
    some (.tup [.lst [neg], .lst [pk (bts true (l.drop p)) (nx s) (l.take p)]], S o0 o1 o2 A (tk p true (nx s) (l.drop p) (pk (bts true (l.drop p)) (nx s) (l.take p)) 9 5 "exchange" (pk b s (c.map hdv)) 8) R1 (c.map ent) e1 e2) :=
  t113s (S_high o0 o1 o2 A R1 e1 e2) P 3 rfl (t134h (S_high o0 o1 o2 A R1 e1 e2) P 3 b c hb hn hl)
theorem lowA (b' : Int) (t' : List V) (c Z : List Int) (hs : 0 ≤ s) (hs' : s < 4294967296) (hn : (Z ++ c).Nodup) (hl : (Z ++ c).length < 1000) (hne : Z ++ c ≠ []) (hd0 : l.drop p = []) :
    callN (hd.heap_1 P) 8 113 [.obj 3, pk 1 (nx s) (c.map hdv), .lam, .bool false] (S o0 o1 o2 (tk p false s l st 5 9 "exchange" (pk b' s t') 7) B (Z.map ent) R2 e1 e2) =
    some (.tup [.lst [exd], .lst [pk 0 (nx s) (l.take p)]], S o0 o1 o2 (tk p false (nx s) [] (pk 0 (nx s) (l.take p)) 5 9 "loading" (pk 1 (nx s) (c.map hdv)) 7) B ((Z ++ c).map ent) R2 e1 e2) := by
  have O := S_low o0 o1 o2 B R2 e1 e2
  refine t113x O P 3 (nx_ne hs hs') (t127l O P 6 1 b' s _ t' (.inl rfl)) (t141 O P 4 (ev := []) hn hl ?_)
  cases h : Z ++ c with
  | nil => exact absurd h hne
  | cons x r => exact t155a O P 4 1 (nx s) _ [] hd0 (by decide) (by simp) (ent x) (r.map ent)
theorem lowB (b b' : Int) (t' : List V) (c Z : List Int) (hb : b = 1 ∨ b = 3) (hs : 0 ≤ s) (hs' : s < 4294967296) (hn : (Z ++ c).Nodup) (hl : (Z ++ c).length < 1000) (h : ¬ (l.drop p = [] ∧ Builtin.bitAnd b 2 = 0)) :
    callN (hd.heap_1 P) 8 113 [.obj 3, pk b (nx s) (c.map hdv), .lam, .bool false] (S o0 o1 o2 (tk p false s l st 5 9 "exchange" (pk b' s t') 7) B (Z.map ent) R2 e1 e2) =
    some (.tup [.lst [], .lst [pk (bts false (l.drop p)) (nx s) (l.take p)]], S o0 o1 o2 (tk p false (nx s) (l.drop p) (pk (bts false (l.drop p)) (nx s) (l.take p)) 5 9 "exchange" (pk b (nx s) (c.map hdv)) 7) B ((Z ++ c).map ent) R2 e1 e2) := by
  have O := S_low o0 o1 o2 B R2 e1 e2
  exact t113x O P 3 (nx_ne hs hs') (t127l O P 6 b b' s _ t' hb) (t141 O P 4 (ev := []) hn hl (t155b O P 4 b (nx s) _ [] h (by simp)))
theorem highA (sb b' s' : Int) (sl t' : List V) (c Z : List Int) (hs : s ≠ s') (hn : (Z ++ c).Nodup) (hl : (Z ++ c).length < 1000) (hne : Z ++ c ≠ []) (hsb : Builtin.bitAnd sb 2 = 0) :
    callN (hd.heap_1 P) 8 113 [.obj 5, pk 0 s (c.map hdv), .lam, .bool false] (S o0 o1 o2 A (tk p true s l (pk sb s sl) 9 5 "exchange" (pk b' s' t') 8) R1 (Z.map ent) e1 e2) =
    some (.tup [.lst [exd], .lst []], S o0 o1 o2 A (tk p true s l (pk sb s sl) 9 5 "loading" (pk 0 s (c.map hdv)) 8) R1 ((Z ++ c).map ent) e1 e2) := by
  have O := S_high o0 o1 o2 A R1 e1 e2
  refine t113x O P 3 hs (t127h O P 6 0 b' s' _ t' (.inl rfl)) (t141 O P 4 (ev := []) hn hl ?_)
  cases h : Z ++ c with
  | nil => exact absurd h hne
  | cons x r => exact t148a O P 4 sb s 0 s sl _ [] hsb (by decide) (by simp) (ent x) (r.map ent)
theorem highB (b sb b' s' : Int) (sl t' : List V) (c Z : List Int) (hb : b = 0 ∨ b = 2) (hs : s ≠ s') (hn : (Z ++ c).Nodup) (hl : (Z ++ c).length < 1000) (h : ¬ (Builtin.bitAnd sb 2 = 0 ∧ Builtin.bitAnd b 2 = 0)) :
    callN (hd.heap_1 P) 8 113 [.obj 5, pk b s (c.map hdv), .lam, .bool false] (S o0 o1 o2 A (tk p true s l (pk sb s sl) 9 5 "exchange" (pk b' s' t') 8) R1 (Z.map ent) e1 e2) =
    some (.tup [.lst [], .lst [pk (bts true (l.drop p)) (nx s) (l.take p)]], S o0 o1 o2 A (tk p true (nx s) (l.drop p) (pk (bts true (l.drop p)) (nx s) (l.take p)) 9 5 "exchange" (pk b s (c.map hdv)) 8) R1 ((Z ++ c).map ent) e1 e2) := by
  have O := S_high o0 o1 o2 A R1 e1 e2
  exact t113x O P 3 hs (t127h O P 6 b b' s' _ t' hb) (t141 O P 4 (ev := []) hn hl (t148b O P 4 sb s b s sl _ [] h))
end
def Law (C : Oracle) (b : List Stmt) (sc : Scope) (ρ : Rho) (σ : St) : Prop := ∃ ρ' σ', evB C b sc ρ σ = some (.ret (.bool true), ρ', σ')
theorem Law_next {C : Oracle} {s : Stmt} {r : List Stmt} {sc : Scope} {ρ ρ₁ : Rho} {σ σ₁ : St} (h : evS C s sc ρ σ = some (.next, ρ₁, σ₁)) (k : Law C r sc ρ₁ σ₁) : Law C (s :: r) sc ρ σ := by
  obtain ⟨ρ', σ', e⟩ := k
  exact ⟨ρ', σ', by rw [evB, h]; exact e⟩
theorem loop_done {f : V → Rho → St → Option (Fl × Rho × St)} {D : Rho → St → Prop} (hd : ∀ ρ σ u, D ρ σ → ∃ ρ', f u ρ σ = some (.brk, ρ', σ) ∧ D ρ' σ) : ∀ (us : List V) (ρ : Rho) (σ : St), D ρ σ → ∃ ρ' σ', loopS f us ρ σ = some (.next, ρ', σ') ∧ D ρ' σ'
  | [], ρ, σ, d => ⟨ρ, σ, rfl, d⟩
  | u :: us, ρ, σ, d => by
    obtain ⟨ρ', e, d'⟩ := hd ρ σ u d
    exact ⟨ρ', σ, by rw [loopS, e], d'⟩
theorem loop_turns {f : V → Rho → St → Option (Fl × Rho × St)} {D : Rho → St → Prop} {I : Nat → Rho → St → Prop} (hd : ∀ ρ σ u, D ρ σ → ∃ ρ', f u ρ σ = some (.brk, ρ', σ) ∧ D ρ' σ)
    (hs : ∀ k ρ σ u, I k ρ σ → ∃ ρ' σ', f u ρ σ = some (.next, ρ', σ') ∧ (D ρ' σ' ∨ ∃ g, g < k ∧ I g ρ' σ')) : ∀ (us : List V) (k : Nat) (ρ : Rho) (σ : St), I k ρ σ → k < us.length → ∃ ρ' σ', loopS f us ρ σ = some (.next, ρ', σ') ∧ D ρ' σ'
  | [], k, ρ, σ, _, h => absurd h (Nat.not_lt_zero _)
  | u :: us, k, ρ, σ, i, h => by
    obtain ⟨ρ₁, σ₁, e, h₁⟩ := hs k ρ σ u i
    rcases h₁ with d | ⟨g, hg, i'⟩
    · obtain ⟨ρ', σ', e', d'⟩ := loop_done hd us ρ₁ σ₁ d
      exact ⟨ρ', σ', by rw [loopS, e]; exact e', d'⟩
    · obtain ⟨ρ', σ', e', d'⟩ := loop_turns hd hs us g ρ₁ σ₁ i' (by rw [List.length_cons] at h; omega)
      exact ⟨ρ', σ', by rw [loopS, e]; exact e', d'⟩
theorem Law_for {C : Oracle} {q p : Pos} {it : Expr} {b r : List Stmt} {sc : Scope} {ρ : Rho} {σ : St} (I : Nat → Rho → St → Prop) (D : Rho → St → Prop) (hn : sc.names.lookup (Str.ofString "turn") = some .local) (hit : evE C it sc ρ σ = some (.rng 9, σ)) (h0 : I 6 ρ σ)
    (hs : ∀ k ρ σ u, I k ρ σ → ∃ ρ' σ', evB C b sc (ρ.put (Str.ofString "turn") u) σ = some (.next, ρ', σ') ∧ (D ρ' σ' ∨ ∃ g, g < k ∧ I g ρ' σ'))
    (hd : ∀ ρ σ u, D ρ σ → ∃ ρ', evB C b sc (ρ.put (Str.ofString "turn") u) σ = some (.brk, ρ', σ) ∧ D ρ' σ)
    (k : ∀ ρ' σ', D ρ' σ' → Law C r sc ρ' σ') : Law C (.For (.Name (Str.ofString "turn") q) it b [] p :: r) sc ρ σ := by
  have e0 : ∀ u ρ σ, (match evW C (.Name (Str.ofString "turn") q) u sc ρ σ with
          | some (ρ, σ) => evB C b sc ρ σ
          | none => none) = evB C b sc (ρ.put (Str.ofString "turn") u) σ := fun u ρ σ => by rw [evW, hn]
  obtain ⟨ρ₁, σ₁, e₁, d₁⟩ := loop_turns (f := fun u ρ σ => match evW C (.Name (Str.ofString "turn") q) u sc ρ σ with
          | some (ρ, σ) => evB C b sc ρ σ
          | none => none) (D := D) (I := I) (fun ρ σ u d => by rw [e0]; exact hd ρ σ u d) (fun k ρ σ u i => by rw [e0]; exact hs k ρ σ u i) ((List.range 9).map fun (i : Nat) => V.int (Int.ofNat i)) 6 ρ σ h0 (by decide)
  obtain ⟨ρ', σ', e⟩ := k ρ₁ σ₁ d₁
  refine ⟨ρ', σ', ?_⟩
  rw [evB, evS, hit]
  dsimp only [itemsV]
  exact Eq.trans (congrArg (fun z => match z with | some (Fl.next, ρ, σ) => evB C r sc ρ σ | some (f, ρ, σ) => some (f, ρ, σ) | none => none) e₁) e
end Mine

end
section
open PySem PySem.W PyProof.Rows
set_option Elab.async false
set_option maxRecDepth 100000
set_option maxHeartbeats 8000000
set_option linter.unusedSimpArgs false
namespace Mine
abbrev kv (x : Int) : V := .tup [.int 1, .int 0, .int x]
def kdd (x : Int) : PyData := .tuple [.int 1, .int 0, .int x]
theorem pd_kv (σ : St) (x : Int) : pd σ (kv x) = some (kdd x) := by rfl
theorem pds_kv (σ : St) : ∀ c : List Int, pds σ (c.map kv) = some (c.map kdd)
  | [] => rfl
  | x :: c => by rw [List.map_cons, pds, pd_kv]; dsimp only; rw [pds_kv σ c]; rfl
theorem pfs_kv : ∀ c : List Int, pfs (c.map kv) = some (c.map kdd)
  | [] => rfl
  | x :: c => by
    rw [List.map_cons, pfs, pfs_kv c]; rfl
theorem lay_kv : ∀ c : List Int, PyData.canLayAll0 (c.map kdd) = true
  | [] => rfl
  | x :: c => by rw [List.map_cons, PyData.canLayAll0, lay_kv c]; rfl
theorem dep_kv : ∀ c : List Int, PyData.depthAll (c.map kdd) ≤ 1
  | [] => by rw [List.map_nil, PyData.depthAll]; omega
  | x :: c => by
    rw [List.map_cons, PyData.depthAll]
    have h1 := dep_kv c
    have h2 : PyData.depth (kdd x) = 1 := rfl
    rw [h2]
    exact Nat.max_le.mpr ⟨Nat.le_refl _, h1⟩
theorem c_srt (σ : St) (c : List Int) : cmpV (σ ++ [.list (c.map kv)]) .NotEq (.lst (c.map kv)) (.obj σ.length) = some false := by
  have h1 : SeqAt.shaped (.list (c.map kdd)) = true := by
    have hc := dep_kv c
    unfold SeqAt.shaped
    simp only [PyData.canLay0, lay_kv, PyData.depth, Bool.true_and, decide_eq_true_eq]
    exact decide_eq_true (Nat.le_trans (Nat.succ_le_succ hc) (by decide : 2 ≤ 64))
  have h2 : PyData.canLay0 (.list (c.map kdd)) = true := by simp only [PyData.canLay0, lay_kv]
  have h3 : pd (σ ++ [.list (c.map kv)]) (.obj σ.length) = some (.list (c.map kdd)) := by
    rw [pd, show (σ ++ [MO.list (c.map kv)])[σ.length]? = some (.list (c.map kv)) by simp]
    dsimp only; rw [pfs_kv]
  have h4 : pd (σ ++ [.list (c.map kv)]) (.lst (c.map kv)) = some (.list (c.map kdd)) := by
    rw [pd, pds_kv]
  simp only [cmpV, h3, h4, h1, Bool.and_self, if_true]
  rw [PySem.SeqAt.eqv_refl _ h2]; rfl
theorem c_objnil (σ T : St) : cmpV (σ ++ .list [] :: T) .Eq (.obj σ.length) (.lst []) = some true := by
  have h3 : pd (σ ++ .list [] :: T) (.obj σ.length) = some (.list []) := by
    rw [pd, show (σ ++ MO.list [] :: T)[σ.length]? = some (.list []) by simp]
    rfl
  simp only [cmpV, h3]
  rfl
theorem c_nilne (σ : St) : cmpV σ .NotEq (.lst []) (.lst []) = some false := by rfl
theorem c_st (σ : St) : cmpV σ .NotEq (.tup [.str (Str.ofString "loading"), .str (Str.ofString "loading")]) (.tup [.str (Str.ofString "loading"), .str (Str.ofString "loading")]) = some false := by kernel_rfl
theorem c_ev (o0 o1 o2 : MO) (A B : List (Str × V)) (R1 R2 : List (List Int × V)) : cmpV (S o0 o1 o2 A B R1 R2 [neg, exd] [neg, exd]) .NotEq (.lst [.obj 9, .obj 10]) (.lst [.lst [neg, exd], .lst [neg, exd]]) = some false := by kernel_rfl
theorem n_mul2 (x : List V) : binV .Mult (.lst x) (.int 2) = if x.length ≤ 100 then some (.lst (x ++ x)) else none := by
  show (if (2 : Int) = 2 ∧ x.length ≤ 100 then some (V.lst (x ++ x)) else none) = _
  simp
theorem b_sorted (σ : St) (i : Nat) : biV σ (.builtin "sorted") [.obj i] = match σ[i]? with
        | some (.dict es) => if ascK (es.map (·.1)) && ((es.map (·.1)).all fun k => !k.isEmpty) && decide (es.length ≤ 6) then some (.lst (es.map fun e => keyV e.1)) else none
        | _ => none := by rfl
theorem sorted_rows (first : Int) (m : Nat) (hf : first = 10 ∨ first = 30) (hm : 1 + m ≤ 6) (σ : St) (i : Nat) (h : σ[i]? = some (.dict ((rowsI first (1 + m)).map ent))) : biV σ (.builtin "sorted") [.obj i] = some (.lst ((rowsI first (1 + m)).map kv)) := by
  rw [b_sorted, h]
  dsimp only
  rcases hf with rfl | rfl <;> rcases (by omega : m = 0 ∨ m = 1 ∨ m = 2 ∨ m = 3 ∨ m = 4 ∨ m = 5) with rfl | rfl | rfl | rfl | rfl | rfl <;> rfl
theorem loopC_list' (g : Int → V) {f : V → St → Option (Option V × St)} (c : List Int) (σ : St) (j : Nat) (hj : σ[j]? = some (.list (c.map hdv))) (hf : ∀ x σ, f (hdv x) σ = some (some (g x), σ)) (hc : c.length < 1000) : ∀ (r i fuel : Nat), i + r = c.length → r < fuel → loopC f (.obj j) σ.length fuel i (σ ++ [.list ((c.take i).map g)]) = some (.obj σ.length, σ ++ [.list (c.map g)])
  | r, i, 0, _, h => absurd h (Nat.not_lt_zero _)
  | r, i, fuel + 1, h, hl => by
    have hjl : j < σ.length := (List.getElem?_eq_some_iff.mp hj).1
    have hg : ∀ l, getAt (σ ++ [.list l]) (.obj j) i = some ((c.map hdv)[i]?) := fun l => by
      simp only [getAt]
      rw [List.getElem?_append_left hjl, hj]
    rw [loopC_at, hg]
    cases r with
    | zero =>
      have e : (c.map hdv)[i]? = none := by rw [List.getElem?_eq_none_iff, List.length_map]; omega
      rw [e]
      dsimp only
      rw [List.take_of_length_le (by omega)]
    | succ r =>
      have hi : i < c.length := by omega
      have e : (c.map hdv)[i]? = some (hdv c[i]) := by simp [hi]
      rw [e]
      dsimp only
      rw [hf]
      dsimp only
      rw [l_getL]
      dsimp only
      rw [if_pos (by simp; omega), l_setL]
      have k := loopC_list' g c σ j hj hf hc r (i + 1) fuel (by omega) (by omega)
      rw [List.take_succ_eq_append_getElem hi, List.map_append] at k
      exact k
theorem loopC_list (g : Int → V) (c : List Int) (j : Nat) (hc : c.length < 1000) {f : V → St → Option (Option V × St)} (σ : St) (hj : σ[j]? = some (.list (c.map hdv))) (hf : ∀ x σ, f (hdv x) σ = some (some (g x), σ)) : loopC f (.obj j) σ.length 1001 0 (σ ++ [.list []]) = some (.obj σ.length, σ ++ [.list (c.map g)]) :=
  loopC_list' g c σ j hj hf hc c.length 0 1001 (by omega) (by omega)
section
variable (o0 o1 o2 : MO) (A B : List (Str × V)) (R1 R2 : List (List Int × V)) (e1 e2 : List V) (T : St)
theorem S_1 : (S o0 o1 o2 A B R1 R2 e1 e2)[1]? = some o1 := rfl
theorem S_2 : (S o0 o1 o2 A B R1 R2 e1 e2)[2]? = some o2 := rfl
theorem SA_1 : (S o0 o1 o2 A B R1 R2 e1 e2 ++ T)[1]? = some o1 := rfl
theorem SA_5 : (S o0 o1 o2 A B R1 R2 e1 e2 ++ T)[5]? = some (.inst B) := rfl
theorem SA_8 : (S o0 o1 o2 A B R1 R2 e1 e2 ++ T)[8]? = some (.dict R2) := rfl
end
end Mine

end
section
open PySem PySem.W PyProof.Rows
set_option Elab.async false
set_option maxRecDepth 100000
set_option maxHeartbeats 8000000
set_option linter.unusedSimpArgs false
namespace Mine
def AgrL (ρ0 ρ : Rho) : Prop := ∀ y : Str, y ≠ Str.ofString "turn" → y ≠ Str.ofString "told" → y ≠ Str.ofString "answers" → y ≠ Str.ofString "packets" → y ≠ Str.ofString "wanted" → ρ y = ρ0 y
def Dn (ρ0 : Rho) (o0 o1 o2 : MO) (p q : Nat) (Xs Ys : List Int) (ρ : Rho) (σ : St) : Prop := AgrL ρ0 ρ ∧ ρ (Str.ofString "packets") = some (.lst []) ∧ ∃ s1 l1 st1 m1 s2 l2 st2 m2,
  σ = S o0 o1 o2 (tk p false s1 l1 st1 5 9 "loading" m1 7) (tk q true s2 l2 st2 9 5 "loading" m2 8) (Ys.map ent) (Xs.map ent) [neg, exd] [neg, exd]
def Start (N : Int) (o0 o1 o2 : MO) (p q : Nat) (Xs Ys : List Int) (k : Nat) (ρ : Rho) (σ : St) : Prop := k = 6 ∧ ρ (Str.ofString "packets") = some (.lst [pk 7 N []]) ∧ ρ (Str.ofString "wanted") = some (.int N) ∧
  σ = S o0 o1 o2 (tk p true 40 (Xs.map hdv) (pk 7 40 []) 5 9 "exstart" .none 7) (tk q true N (Ys.map hdv) (pk 7 N []) 9 5 "exstart" .none 8) [] [] [] []
def Mid (o0 o1 o2 : MO) (p q : Nat) (Xs Ys : List Int) (k : Nat) (ρ : Rho) (σ : St) : Prop := ∃ (s : Int) (L H c Z1 Z2 : List Int) (sl : V) (b' : Int) (t' : List V) (b'' : Int) (t'' : List V), (0 ≤ s ∧ s < 4294967296) ∧ L.length ≤ k ∧ H.length ≤ k ∧ Z1 ++ (c ++ H) = Ys ∧ Z2 ++ L = Xs ∧
  ρ (Str.ofString "packets") = some (.lst [pk (bts true (H.map hdv)) (nx s) (c.map hdv)]) ∧ ρ (Str.ofString "wanted") = some (.int (nx s)) ∧
  σ = S o0 o1 o2 (tk p false s (L.map hdv) sl 5 9 "exchange" (pk b' s t') 7) (tk q true (nx s) (H.map hdv) (pk (bts true (H.map hdv)) (nx s) (c.map hdv)) 9 5 "exchange" (pk b'' s t'') 8) (Z1.map ent) (Z2.map ent) [neg] [neg]
def In (ρ0 : Rho) (N : Int) (o0 o1 o2 : MO) (p q : Nat) (Xs Ys : List Int) (k : Nat) (ρ : Rho) (σ : St) : Prop := AgrL ρ0 ρ ∧ (Start N o0 o1 o2 p q Xs Ys k ρ σ ∨ Mid o0 o1 o2 p q Xs Ys k ρ σ)
theorem n_pow : binV .Pow (.int 2) (.int 32) = some (.int 4294967296) := by rfl
theorem cut12 (l : List V) : cutV (.lst l) .none (.int 12) = some (.lst (l.take 12)) := by rfl
theorem c_is_int (x : Int) : (x = x) = True := eq_self x
theorem AgrL.put {ρ0 ρ : Rho} (a : AgrL ρ0 ρ) {x : String} (v : V) (h : x = "turn" ∨ x = "told" ∨ x = "answers" ∨ x = "packets" ∨ x = "wanted") : AgrL ρ0 (ρ.put (Str.ofString x) v) := fun y h1 h2 h3 h4 h5 => by
  rw [put_at, if_neg (by rcases h with rfl | rfl | rfl | rfl | rfl <;> assumption)]
  exact a y h1 h2 h3 h4 h5

theorem Law_put {C : Oracle} {s : Stmt} {r : List Stmt} {sc : Scope} {ρ : Rho} {σ : St} (x : Str) (v : V) (σ₁ : St) (h : evS C s sc ρ σ = some (.next, ρ.put x v, σ₁)) (k : Law C r sc (ρ.put x v) σ₁) : Law C (s :: r) sc ρ σ := Law_next h k
theorem Law_put2 {C : Oracle} {s : Stmt} {r : List Stmt} {sc : Scope} {ρ : Rho} {σ : St} (x : Str) (v : V) (y : Str) (u : V) (σ₁ : St) (h : evS C s sc ρ σ = some (.next, (ρ.put x v).put y u, σ₁)) (k : Law C r sc ((ρ.put x v).put y u) σ₁) : Law C (s :: r) sc ρ σ := Law_next h k
theorem Law_put3 {C : Oracle} {s : Stmt} {r : List Stmt} {sc : Scope} {ρ : Rho} {σ : St} (x : Str) (v : V) (y : Str) (u : V) (z : Str) (t : V) (σ₁ : St) (h : evS C s sc ρ σ = some (.next, ((ρ.put x v).put y u).put z t, σ₁)) (k : Law C r sc (((ρ.put x v).put y u).put z t) σ₁) : Law C (s :: r) sc ρ σ := Law_next h k
theorem Law_put4 {C : Oracle} {s : Stmt} {r : List Stmt} {sc : Scope} {ρ : Rho} {σ : St} (x : Str) (v : V) (y : Str) (u : V) (z : Str) (t : V) (w : Str) (k : V) (σ₁ : St) (h : evS C s sc ρ σ = some (.next, (((ρ.put x v).put y u).put z t).put w k, σ₁)) (k : Law C r sc ((((ρ.put x v).put y u).put z t).put w k) σ₁) : Law C (s :: r) sc ρ σ := Law_next h k
theorem Law_ret {C : Oracle} {r : List Stmt} {sc : Scope} {ρ : Rho} {σ : St} (σ' : St) (h : evB C r sc ρ σ = some (.ret (.bool true), ρ, σ')) : Law C r sc ρ σ := ⟨ρ, σ', h⟩
theorem Law_same {C : Oracle} {s : Stmt} {r : List Stmt} {sc : Scope} {ρ : Rho} {σ : St} (σ₁ : St) (h : evS C s sc ρ σ = some (.next, ρ, σ₁)) (k : Law C r sc ρ σ₁) : Law C (s :: r) sc ρ σ := Law_next h k
structure LF (N : Int) (ρ : Rho) : Prop where
  low : ρ (Str.ofString "low") = some (.obj 3)
  high : ρ (Str.ofString "high") = some (.obj 5)
  rows : ρ (Str.ofString "rows") = some (.lst [.obj 1, .obj 2])
  number : ρ (Str.ofString "number") = some (.int N)
  first : ρ (Str.ofString "first") = some (pk 7 N [])
  events : ρ (Str.ofString "events") = some (.lst [.obj 9, .obj 10])
  packets : ρ (Str.ofString "packets") = some (.lst [pk 7 N []])
  wanted : ρ (Str.ofString "wanted") = some (.int N)
theorem Law_abs {N : Int} {C : Oracle} {r : List Stmt} {sc : Scope} {ρ : Rho} {σ : St} (f : LF N ρ) (k : ∀ ρ, LF N ρ → Law C r sc ρ σ) : Law C r sc ρ σ := k ρ f
theorem b_rng9 (σ : St) : biV σ (.type "range") [.int 9] = some (.rng 9) := by rfl
theorem rows_len (first : Int) (m : Nat) : (rowsI first m).length = m := by simp [rowsI]
theorem rows_nodup (first : Int) (m : Nat) : (rowsI first m).Nodup := by
  unfold rowsI
  rw [List.nodup_iff_pairwise_ne, List.pairwise_map]
  exact List.Pairwise.imp (fun h => by omega) (List.nodup_iff_pairwise_ne.mp List.nodup_range)
theorem AgrL.at {ρ0 ρ : Rho} (a : AgrL ρ0 ρ) {x : String} {v : Option V} (f : ρ0 (Str.ofString x) = v) (h : x ≠ "turn" ∧ x ≠ "told" ∧ x ≠ "answers" ∧ x ≠ "packets" ∧ x ≠ "wanted") : ρ (Str.ofString x) = v := by
  rw [← f]
  exact a _ (by rw [ne_eq, ofs_inj]; exact h.1) (by rw [ne_eq, ofs_inj]; exact h.2.1) (by rw [ne_eq, ofs_inj]; exact h.2.2.1) (by rw [ne_eq, ofs_inj]; exact h.2.2.2.1) (by rw [ne_eq, ofs_inj]; exact h.2.2.2.2)
theorem nat_of (n : Nat) : natOf (.int (n : Int)) = some n := rfl
theorem law_ok (P : Params) (l : List V) (xs : List Int) (hx : l.take 12 = xs.map V.int) : ∃ ρ σ, lawRun (hd.heap_1 P) 8 (.lst l) = some (.ret (.bool true), ρ, σ) := by
  have e0 : ∀ fd b, fdOf (hd.heap_1 P) 217 = some fd → fd.body = .stmts b → Law (callN (hd.heap_1 P) 8) b fd.scope (binds fd.params.args [.lst l]) [] → ∃ ρ σ, lawRun (hd.heap_1 P) 8 (.lst l) = some (.ret (.bool true), ρ, σ) := by
    intro fd b h hb ⟨ρ', σ', e⟩
    exact ⟨ρ', σ', by rw [lawRun, h]; dsimp only; rw [hb]; exact e⟩
  refine e0 _ _ rfl rfl ?_
  -- box
  refine Law_put (Str.ofString "box") (.obj 0) [.list [.lst (xs.map V.int), .int 0]] ?_ ?_
  · simp (disch := first | assumption | decide +kernel | (simp [n_add, itemV, natOf]; done) | fail) [↓lam_t, ↓lk_talk, ↓nm_l, ↓nm_g, ↓put_s, ↓put_n, ↓binds_s, ↓binds_n, ↓w_name, ↓mut_f, ↓mut_t, ↓base_t, evB, evS, evE, evEs, evP, evO, evT, evA, evW, evWs, truth, natOf, itemV, tk_len, swap_na, noTop, itemsV, intsV, g_mtu, g_options, g_portion, g_is_master, g_seq, g_left, g_sent, g_own, g_other, g_stage, g_met, g_requests, a_mtu, a_options, a_portion, a_is_master, a_seq, a_left, a_sent, a_own, a_other, a_stage, a_met, a_requests, u_is_master, u_seq, u_left, u_sent, u_stage, u_met, u_requests, n_begin, n_take, n_is_double, n_is_wrong, n_take_first, n_take_next, n_led, n_followed, n_ended, n_first, n_next_packet, n_has_told_all, m_begin, m_take, m_is_double, m_is_wrong, m_take_first, m_take_next, m_led, m_followed, m_ended, m_first, m_next_packet, m_has_told_all, glDescribing, glMASTER, glMORE, glINIT, glNUMBERS, glEXTERNAL, glGREATEST_KIND, glbarred, glkey_of, glExchange, gl_law_take, gl_law_heads, gl_law_is_mismatch, gllen, glabs, glsorted, gltuple, gllist, glrange, b_len_tup, b_len_lst, b_len_obj, b_abs, b_tuple, b_list, c_lt, c_gt, c_le, c_ge, c_eq, c_ne, c_bool, c_is0, c_is1, c_isn0, c_isn1, c_t3, n_and, n_or, n_add, n_sub, n_mod, n_cat, cut_hi, cut_lo, cut_25, c_Eq_exchange_exstart, c_Eq_exstart_exstart, c_Eq_exchange_exchange, c_Eq_full_full, c_Eq_loading_full, c_Eq__, c_Eq_loading_exchange, c_Eq_loading_exstart, c_NotEq_exchange_exstart, c_NotEq_exstart_exstart, c_NotEq_exchange_exchange, c_NotEq_full_full, c_NotEq_loading_full, c_NotEq__, c_NotEq_loading_exchange, c_NotEq_loading_exstart, cut12, hx]
  obtain ⟨d0, hd0, i0⟩ := t200_0 P 7 xs []
  -- number
  have hN : ∃ N : Int, 0 ≤ N ∧ N < 4294967296 ∧ ([.int 4294967295, .int 77, .int 0, .int 4294967294, .int 4294967293] : List V)[d0]? = some (.int N) := by
    rcases (by omega : d0 = 0 ∨ d0 = 1 ∨ d0 = 2 ∨ d0 = 3 ∨ d0 = 4) with rfl | rfl | rfl | rfl | rfl
    · exact ⟨4294967295, by omega, by omega, rfl⟩
    · exact ⟨77, by omega, by omega, rfl⟩
    · exact ⟨0, by omega, by omega, rfl⟩
    · exact ⟨4294967294, by omega, by omega, rfl⟩
    · exact ⟨4294967293, by omega, by omega, rfl⟩
  obtain ⟨N, hN0, hN1, hN⟩ := hN
  refine Law_put (Str.ofString "number") (.int N) [.list [.lst (xs.map V.int), .int 1]] ?_ ?_
  · simp (disch := first | assumption | decide +kernel | (simp [n_add, itemV, natOf]; done) | fail) [↓lam_t, ↓lk_talk, ↓nm_l, ↓nm_g, ↓put_s, ↓put_n, ↓binds_s, ↓binds_n, ↓w_name, ↓mut_f, ↓mut_t, ↓base_t, evB, evS, evE, evEs, evP, evO, evT, evA, evW, evWs, truth, natOf, itemV, tk_len, swap_na, noTop, itemsV, intsV, g_mtu, g_options, g_portion, g_is_master, g_seq, g_left, g_sent, g_own, g_other, g_stage, g_met, g_requests, a_mtu, a_options, a_portion, a_is_master, a_seq, a_left, a_sent, a_own, a_other, a_stage, a_met, a_requests, u_is_master, u_seq, u_left, u_sent, u_stage, u_met, u_requests, n_begin, n_take, n_is_double, n_is_wrong, n_take_first, n_take_next, n_led, n_followed, n_ended, n_first, n_next_packet, n_has_told_all, m_begin, m_take, m_is_double, m_is_wrong, m_take_first, m_take_next, m_led, m_followed, m_ended, m_first, m_next_packet, m_has_told_all, glDescribing, glMASTER, glMORE, glINIT, glNUMBERS, glEXTERNAL, glGREATEST_KIND, glbarred, glkey_of, glExchange, gl_law_take, gl_law_heads, gl_law_is_mismatch, gllen, glabs, glsorted, gltuple, gllist, glrange, b_len_tup, b_len_lst, b_len_obj, b_abs, b_tuple, b_list, c_lt, c_gt, c_le, c_ge, c_eq, c_ne, c_bool, c_is0, c_is1, c_isn0, c_isn1, c_t3, n_and, n_or, n_add, n_sub, n_mod, n_cat, cut_hi, cut_lo, cut_25, c_Eq_exchange_exstart, c_Eq_exstart_exstart, c_Eq_exchange_exchange, c_Eq_full_full, c_Eq_loading_full, c_Eq__, c_Eq_loading_exchange, c_Eq_loading_exstart, c_NotEq_exchange_exstart, c_NotEq_exstart_exstart, c_NotEq_exchange_exchange, c_NotEq_full_full, c_NotEq_loading_full, c_NotEq__, c_NotEq_loading_exchange, c_NotEq_loading_exstart, n_pow, i0, nat_of, hN]
  -- rows
  obtain ⟨d1, hd1, i1⟩ := t200_1 P 7 xs []
  obtain ⟨d2, hd2, i2⟩ := t200_2 P 7 xs [.list ((rowsI 10 (1 + d1)).map hdv)]
  have j1 : callN (hd.heap_1 P) 8 205 [.int 10, .int (1 + (d1 : Int))] [.list [.lst (xs.map V.int), .int 2]] = some (.obj 1, [.list [.lst (xs.map V.int), .int 2], .list ((rowsI 10 (1 + d1)).map hdv)]) := by
    have h := t205 P 7 10 [.list [.lst (xs.map V.int), .int 2]] (1 + d1) (by omega)
    rw [Int.natCast_add] at h
    exact h
  have j2 : callN (hd.heap_1 P) 8 205 [.int 30, .int (1 + (d2 : Int))] [.list [.lst (xs.map V.int), .int 3], .list ((rowsI 10 (1 + d1)).map hdv)] = some (.obj 2, [.list [.lst (xs.map V.int), .int 3], .list ((rowsI 10 (1 + d1)).map hdv), .list ((rowsI 30 (1 + d2)).map hdv)]) := by
    have h := t205 P 7 30 [.list [.lst (xs.map V.int), .int 3], .list ((rowsI 10 (1 + d1)).map hdv)] (1 + d2) (by omega)
    rw [Int.natCast_add] at h
    exact h
  refine Law_put (Str.ofString "rows") (.lst [.obj 1, .obj 2]) [.list [.lst (xs.map V.int), .int 3], .list ((rowsI 10 (1 + d1)).map hdv), .list ((rowsI 30 (1 + d2)).map hdv)] ?_ ?_
  · simp (disch := first | assumption | decide +kernel | (simp [n_add, itemV, natOf]; done) | fail) [↓lam_t, ↓lk_talk, ↓nm_l, ↓nm_g, ↓put_s, ↓put_n, ↓binds_s, ↓binds_n, ↓w_name, ↓mut_f, ↓mut_t, ↓base_t, evB, evS, evE, evEs, evP, evO, evT, evA, evW, evWs, truth, natOf, itemV, tk_len, swap_na, noTop, itemsV, intsV, g_mtu, g_options, g_portion, g_is_master, g_seq, g_left, g_sent, g_own, g_other, g_stage, g_met, g_requests, a_mtu, a_options, a_portion, a_is_master, a_seq, a_left, a_sent, a_own, a_other, a_stage, a_met, a_requests, u_is_master, u_seq, u_left, u_sent, u_stage, u_met, u_requests, n_begin, n_take, n_is_double, n_is_wrong, n_take_first, n_take_next, n_led, n_followed, n_ended, n_first, n_next_packet, n_has_told_all, m_begin, m_take, m_is_double, m_is_wrong, m_take_first, m_take_next, m_led, m_followed, m_ended, m_first, m_next_packet, m_has_told_all, glDescribing, glMASTER, glMORE, glINIT, glNUMBERS, glEXTERNAL, glGREATEST_KIND, glbarred, glkey_of, glExchange, gl_law_take, gl_law_heads, gl_law_is_mismatch, gllen, glabs, glsorted, gltuple, gllist, glrange, b_len_tup, b_len_lst, b_len_obj, b_abs, b_tuple, b_list, c_lt, c_gt, c_le, c_ge, c_eq, c_ne, c_bool, c_is0, c_is1, c_isn0, c_isn1, c_t3, n_and, n_or, n_add, n_sub, n_mod, n_cat, cut_hi, cut_lo, cut_25, c_Eq_exchange_exstart, c_Eq_exstart_exstart, c_Eq_exchange_exchange, c_Eq_full_full, c_Eq_loading_full, c_Eq__, c_Eq_loading_exchange, c_Eq_loading_exstart, c_NotEq_exchange_exstart, c_NotEq_exstart_exstart, c_NotEq_exchange_exchange, c_NotEq_full_full, c_NotEq_loading_full, c_NotEq__, c_NotEq_loading_exchange, c_NotEq_loading_exstart, i1, i2, j1, j2]
  have hXn := rows_nodup 10 (1 + d1)
  have hYn := rows_nodup 30 (1 + d2)
  have hXl := rows_len 10 (1 + d1)
  have hYl := rows_len 30 (1 + d2)
  generalize hXs : rowsI 10 (1 + d1) = Xs at *
  generalize hYs : rowsI 30 (1 + d2) = Ys at *
  generalize hc : xs.map V.int = cells at *
  obtain ⟨d3, hd3, i3⟩ := t200_3 P 7 xs [.list (Xs.map hdv), .list (Ys.map hdv)]
  obtain ⟨d4, hd4, i4⟩ := t200_4 P 7 xs [.list (Xs.map hdv), .list (Ys.map hdv), .inst (tk (1 + d3) true 0 [] .none 5 9 "exstart" .none 4), .dict []]
  rw [hc] at i3 i4
  have j3 : ∀ o0, callN (hd.heap_1 P) 8 99 [.obj 3, .int 5, .int 9, .int 1500, .int 2, .int (1 + (d3 : Int))] [o0, .list (Xs.map hdv), .list (Ys.map hdv), .inst []] = some (.none, [o0, .list (Xs.map hdv), .list (Ys.map hdv), .inst (tk (1 + d3) true 0 [] .none 5 9 "exstart" .none 4), .dict []]) := fun o0 => by
    have h := t99 P 6 [o0, .list (Xs.map hdv), .list (Ys.map hdv)] (1 + d3) 5 9
    rw [Int.natCast_add] at h
    exact h
  have j4 : ∀ o0 A, callN (hd.heap_1 P) 8 99 [.obj 5, .int 9, .int 5, .int 1500, .int 2, .int (1 + (d4 : Int))] [o0, .list (Xs.map hdv), .list (Ys.map hdv), .inst A, .dict [], .inst []] = some (.none, [o0, .list (Xs.map hdv), .list (Ys.map hdv), .inst A, .dict [], .inst (tk (1 + d4) true 0 [] .none 9 5 "exstart" .none 6), .dict []]) := fun o0 A => by
    have h := t99 P 6 [o0, .list (Xs.map hdv), .list (Ys.map hdv), .inst A, .dict []] (1 + d4) 9 5
    rw [Int.natCast_add] at h
    exact h
  refine Law_put2 (Str.ofString "high") (.obj 5) (Str.ofString "low") (.obj 3) [.list [.lst cells, .int 5], .list (Xs.map hdv), .list (Ys.map hdv), .inst (tk (1 + d3) true 0 [] .none 5 9 "exstart" .none 4), .dict [], .inst (tk (1 + d4) true 0 [] .none 9 5 "exstart" .none 6), .dict []] ?_ ?_
  · simp (disch := first | assumption | decide +kernel | (simp [n_add, itemV, natOf]; done) | fail) [↓lam_t, ↓lk_talk, ↓nm_l, ↓nm_g, ↓put_s, ↓put_n, ↓binds_s, ↓binds_n, ↓w_name, ↓mut_f, ↓mut_t, ↓base_t, evB, evS, evE, evEs, evP, evO, evT, evA, evW, evWs, truth, natOf, itemV, tk_len, swap_na, noTop, itemsV, intsV, g_mtu, g_options, g_portion, g_is_master, g_seq, g_left, g_sent, g_own, g_other, g_stage, g_met, g_requests, a_mtu, a_options, a_portion, a_is_master, a_seq, a_left, a_sent, a_own, a_other, a_stage, a_met, a_requests, u_is_master, u_seq, u_left, u_sent, u_stage, u_met, u_requests, n_begin, n_take, n_is_double, n_is_wrong, n_take_first, n_take_next, n_led, n_followed, n_ended, n_first, n_next_packet, n_has_told_all, m_begin, m_take, m_is_double, m_is_wrong, m_take_first, m_take_next, m_led, m_followed, m_ended, m_first, m_next_packet, m_has_told_all, glDescribing, glMASTER, glMORE, glINIT, glNUMBERS, glEXTERNAL, glGREATEST_KIND, glbarred, glkey_of, glExchange, gl_law_take, gl_law_heads, gl_law_is_mismatch, gllen, glabs, glsorted, gltuple, gllist, glrange, b_len_tup, b_len_lst, b_len_obj, b_abs, b_tuple, b_list, c_lt, c_gt, c_le, c_ge, c_eq, c_ne, c_bool, c_is0, c_is1, c_isn0, c_isn1, c_t3, n_and, n_or, n_add, n_sub, n_mod, n_cat, cut_hi, cut_lo, cut_25, c_Eq_exchange_exstart, c_Eq_exstart_exstart, c_Eq_exchange_exchange, c_Eq_full_full, c_Eq_loading_full, c_Eq__, c_Eq_loading_exchange, c_Eq_loading_exstart, c_NotEq_exchange_exstart, c_NotEq_exstart_exstart, c_NotEq_exchange_exchange, c_NotEq_full_full, c_NotEq_loading_full, c_NotEq__, c_NotEq_loading_exchange, c_NotEq_loading_exstart, swap2, swap3, fo_sub, fo_call, fo_list, co_if, co_call, co_name, co_sub, st_sub, st_call, st_list, st_if, st_name, putAll, i3, j3, i4, j4]
  have j5 : ∀ o0 d B d', callN (hd.heap_1 P) 8 106 [.obj 3, .int 40, .obj 1] [o0, .list (Xs.map hdv), .list (Ys.map hdv), .inst (tk (1 + d3) true 0 [] .none 5 9 "exstart" .none 4), .dict d, .inst B, .dict d'] = some (pk 7 40 [], [o0, .list (Xs.map hdv), .list (Ys.map hdv), .inst (tk (1 + d3) true 40 (Xs.map hdv) (pk 7 40 []) 5 9 "exstart" .none 7), .dict d, .inst B, .dict d', .dict []]) := fun o0 d B d' =>
    t106 P 6 [o0, .list (Xs.map hdv), .list (Ys.map hdv)] [.dict d, .inst B, .dict d'] 1 (Xs.map hdv) 40 (fun _ => rfl)
  have j6 : ∀ o0 A d d' d7, callN (hd.heap_1 P) 8 106 [.obj 5, .int N, .obj 2] [o0, .list (Xs.map hdv), .list (Ys.map hdv), .inst A, .dict d, .inst (tk (1 + d4) true 0 [] .none 9 5 "exstart" .none 6), .dict d', .dict d7] = some (pk 7 N [], [o0, .list (Xs.map hdv), .list (Ys.map hdv), .inst A, .dict d, .inst (tk (1 + d4) true N (Ys.map hdv) (pk 7 N []) 9 5 "exstart" .none 8), .dict d', .dict d7, .dict []]) := fun o0 A d d' d7 =>
    t106 P 6 [o0, .list (Xs.map hdv), .list (Ys.map hdv), .inst A, .dict d] [.dict d', .dict d7] 2 (Ys.map hdv) N (fun _ => rfl)
  refine Law_same [.list [.lst cells, .int 5], .list (Xs.map hdv), .list (Ys.map hdv), .inst (tk (1 + d3) true 40 (Xs.map hdv) (pk 7 40 []) 5 9 "exstart" .none 7), .dict [], .inst (tk (1 + d4) true 0 [] .none 9 5 "exstart" .none 6), .dict [], .dict []] ?_ ?_
  · simp (disch := first | assumption | decide +kernel | (simp [n_add, itemV, natOf]; done) | fail) [↓lam_t, ↓lk_talk, ↓nm_l, ↓nm_g, ↓put_s, ↓put_n, ↓binds_s, ↓binds_n, ↓w_name, ↓mut_f, ↓mut_t, ↓base_t, evB, evS, evE, evEs, evP, evO, evT, evA, evW, evWs, truth, natOf, itemV, tk_len, swap_na, noTop, itemsV, intsV, g_mtu, g_options, g_portion, g_is_master, g_seq, g_left, g_sent, g_own, g_other, g_stage, g_met, g_requests, a_mtu, a_options, a_portion, a_is_master, a_seq, a_left, a_sent, a_own, a_other, a_stage, a_met, a_requests, u_is_master, u_seq, u_left, u_sent, u_stage, u_met, u_requests, n_begin, n_take, n_is_double, n_is_wrong, n_take_first, n_take_next, n_led, n_followed, n_ended, n_first, n_next_packet, n_has_told_all, m_begin, m_take, m_is_double, m_is_wrong, m_take_first, m_take_next, m_led, m_followed, m_ended, m_first, m_next_packet, m_has_told_all, glDescribing, glMASTER, glMORE, glINIT, glNUMBERS, glEXTERNAL, glGREATEST_KIND, glbarred, glkey_of, glExchange, gl_law_take, gl_law_heads, gl_law_is_mismatch, gllen, glabs, glsorted, gltuple, gllist, glrange, b_len_tup, b_len_lst, b_len_obj, b_abs, b_tuple, b_list, c_lt, c_gt, c_le, c_ge, c_eq, c_ne, c_bool, c_is0, c_is1, c_isn0, c_isn1, c_t3, n_and, n_or, n_add, n_sub, n_mod, n_cat, cut_hi, cut_lo, cut_25, c_Eq_exchange_exstart, c_Eq_exstart_exstart, c_Eq_exchange_exchange, c_Eq_full_full, c_Eq_loading_full, c_Eq__, c_Eq_loading_exchange, c_Eq_loading_exstart, c_NotEq_exchange_exstart, c_NotEq_exstart_exstart, c_NotEq_exchange_exchange, c_NotEq_full_full, c_NotEq_loading_full, c_NotEq__, c_NotEq_loading_exchange, c_NotEq_loading_exstart, j5]
  refine Law_put (Str.ofString "first") (pk 7 N []) [.list [.lst cells, .int 5], .list (Xs.map hdv), .list (Ys.map hdv), .inst (tk (1 + d3) true 40 (Xs.map hdv) (pk 7 40 []) 5 9 "exstart" .none 7), .dict [], .inst (tk (1 + d4) true N (Ys.map hdv) (pk 7 N []) 9 5 "exstart" .none 8), .dict [], .dict [], .dict []] ?_ ?_
  · simp (disch := first | assumption | decide +kernel | (simp [n_add, itemV, natOf]; done) | fail) [↓lam_t, ↓lk_talk, ↓nm_l, ↓nm_g, ↓put_s, ↓put_n, ↓binds_s, ↓binds_n, ↓w_name, ↓mut_f, ↓mut_t, ↓base_t, evB, evS, evE, evEs, evP, evO, evT, evA, evW, evWs, truth, natOf, itemV, tk_len, swap_na, noTop, itemsV, intsV, g_mtu, g_options, g_portion, g_is_master, g_seq, g_left, g_sent, g_own, g_other, g_stage, g_met, g_requests, a_mtu, a_options, a_portion, a_is_master, a_seq, a_left, a_sent, a_own, a_other, a_stage, a_met, a_requests, u_is_master, u_seq, u_left, u_sent, u_stage, u_met, u_requests, n_begin, n_take, n_is_double, n_is_wrong, n_take_first, n_take_next, n_led, n_followed, n_ended, n_first, n_next_packet, n_has_told_all, m_begin, m_take, m_is_double, m_is_wrong, m_take_first, m_take_next, m_led, m_followed, m_ended, m_first, m_next_packet, m_has_told_all, glDescribing, glMASTER, glMORE, glINIT, glNUMBERS, glEXTERNAL, glGREATEST_KIND, glbarred, glkey_of, glExchange, gl_law_take, gl_law_heads, gl_law_is_mismatch, gllen, glabs, glsorted, gltuple, gllist, glrange, b_len_tup, b_len_lst, b_len_obj, b_abs, b_tuple, b_list, c_lt, c_gt, c_le, c_ge, c_eq, c_ne, c_bool, c_is0, c_is1, c_isn0, c_isn1, c_t3, n_and, n_or, n_add, n_sub, n_mod, n_cat, cut_hi, cut_lo, cut_25, c_Eq_exchange_exstart, c_Eq_exstart_exstart, c_Eq_exchange_exchange, c_Eq_full_full, c_Eq_loading_full, c_Eq__, c_Eq_loading_exchange, c_Eq_loading_exstart, c_NotEq_exchange_exstart, c_NotEq_exstart_exstart, c_NotEq_exchange_exchange, c_NotEq_full_full, c_NotEq_loading_full, c_NotEq__, c_NotEq_loading_exchange, c_NotEq_loading_exstart, j6]
  refine Law_put3 (Str.ofString "events") (.lst [.obj 9, .obj 10]) (Str.ofString "wanted") (.int N) (Str.ofString "packets") (.lst [pk 7 N []]) (S (.list [.lst cells, .int 5]) (.list (Xs.map hdv)) (.list (Ys.map hdv)) (tk (1 + d3) true 40 (Xs.map hdv) (pk 7 40 []) 5 9 "exstart" .none 7) (tk (1 + d4) true N (Ys.map hdv) (pk 7 N []) 9 5 "exstart" .none 8) [] [] [] []) ?_ ?_
  · simp (disch := first | assumption | decide +kernel | (simp [n_add, itemV, natOf]; done) | fail) [↓lam_t, ↓lk_talk, ↓nm_l, ↓nm_g, ↓put_s, ↓put_n, ↓binds_s, ↓binds_n, ↓w_name, ↓mut_f, ↓mut_t, ↓base_t, evB, evS, evE, evEs, evP, evO, evT, evA, evW, evWs, truth, natOf, itemV, tk_len, swap_na, noTop, itemsV, intsV, g_mtu, g_options, g_portion, g_is_master, g_seq, g_left, g_sent, g_own, g_other, g_stage, g_met, g_requests, a_mtu, a_options, a_portion, a_is_master, a_seq, a_left, a_sent, a_own, a_other, a_stage, a_met, a_requests, u_is_master, u_seq, u_left, u_sent, u_stage, u_met, u_requests, n_begin, n_take, n_is_double, n_is_wrong, n_take_first, n_take_next, n_led, n_followed, n_ended, n_first, n_next_packet, n_has_told_all, m_begin, m_take, m_is_double, m_is_wrong, m_take_first, m_take_next, m_led, m_followed, m_ended, m_first, m_next_packet, m_has_told_all, glDescribing, glMASTER, glMORE, glINIT, glNUMBERS, glEXTERNAL, glGREATEST_KIND, glbarred, glkey_of, glExchange, gl_law_take, gl_law_heads, gl_law_is_mismatch, gllen, glabs, glsorted, gltuple, gllist, glrange, b_len_tup, b_len_lst, b_len_obj, b_abs, b_tuple, b_list, c_lt, c_gt, c_le, c_ge, c_eq, c_ne, c_bool, c_is0, c_is1, c_isn0, c_isn1, c_t3, n_and, n_or, n_add, n_sub, n_mod, n_cat, cut_hi, cut_lo, cut_25, c_Eq_exchange_exstart, c_Eq_exstart_exstart, c_Eq_exchange_exchange, c_Eq_full_full, c_Eq_loading_full, c_Eq__, c_Eq_loading_exchange, c_Eq_loading_exstart, c_NotEq_exchange_exstart, c_NotEq_exstart_exstart, c_NotEq_exchange_exchange, c_NotEq_full_full, c_NotEq_loading_full, c_NotEq__, c_NotEq_loading_exchange, c_NotEq_loading_exstart, swap2, swap3, fo_sub, fo_call, fo_list, co_if, co_call, co_name, co_sub, st_sub, st_call, st_list, st_if, st_name, putAll]
    rfl
  refine Law_abs (N := N) ⟨by simp (disch := decide +kernel) only [↓put_s, ↓put_n], by simp (disch := decide +kernel) only [↓put_s, ↓put_n], by simp (disch := decide +kernel) only [↓put_s, ↓put_n], by simp (disch := decide +kernel) only [↓put_s, ↓put_n], by simp (disch := decide +kernel) only [↓put_s, ↓put_n], by simp (disch := decide +kernel) only [↓put_s, ↓put_n], by simp (disch := decide +kernel) only [↓put_s, ↓put_n], by simp (disch := decide +kernel) only [↓put_s, ↓put_n]⟩ ?_
  intro ρ0 f
  generalize ho0 : MO.list [.lst cells, .int 5] = o0 at *
  generalize hp : 1 + d3 = p at *
  generalize hq : 1 + d4 = q at *
  refine Law_for (In ρ0 N o0 (.list (Xs.map hdv)) (.list (Ys.map hdv)) p q Xs Ys) (Dn ρ0 o0 (.list (Xs.map hdv)) (.list (Ys.map hdv)) p q Xs Ys) ?_ ?_ ?_ ?_ ?_ ?_
  · kernel_rfl
  · simp (disch := first | assumption | decide +kernel | (simp [n_add, itemV, natOf]; done) | fail) [↓lam_t, ↓lk_talk, ↓nm_l, ↓nm_g, ↓put_s, ↓put_n, ↓binds_s, ↓binds_n, ↓w_name, ↓mut_f, ↓mut_t, ↓base_t, evB, evS, evE, evEs, evP, evO, evT, evA, evW, evWs, truth, natOf, itemV, tk_len, swap_na, noTop, itemsV, intsV, g_mtu, g_options, g_portion, g_is_master, g_seq, g_left, g_sent, g_own, g_other, g_stage, g_met, g_requests, a_mtu, a_options, a_portion, a_is_master, a_seq, a_left, a_sent, a_own, a_other, a_stage, a_met, a_requests, u_is_master, u_seq, u_left, u_sent, u_stage, u_met, u_requests, n_begin, n_take, n_is_double, n_is_wrong, n_take_first, n_take_next, n_led, n_followed, n_ended, n_first, n_next_packet, n_has_told_all, m_begin, m_take, m_is_double, m_is_wrong, m_take_first, m_take_next, m_led, m_followed, m_ended, m_first, m_next_packet, m_has_told_all, glDescribing, glMASTER, glMORE, glINIT, glNUMBERS, glEXTERNAL, glGREATEST_KIND, glbarred, glkey_of, glExchange, gl_law_take, gl_law_heads, gl_law_is_mismatch, gllen, glabs, glsorted, gltuple, gllist, glrange, b_len_tup, b_len_lst, b_len_obj, b_abs, b_tuple, b_list, c_lt, c_gt, c_le, c_ge, c_eq, c_ne, c_bool, c_is0, c_is1, c_isn0, c_isn1, c_t3, n_and, n_or, n_add, n_sub, n_mod, n_cat, cut_hi, cut_lo, cut_25, c_Eq_exchange_exstart, c_Eq_exstart_exstart, c_Eq_exchange_exchange, c_Eq_full_full, c_Eq_loading_full, c_Eq__, c_Eq_loading_exchange, c_Eq_loading_exstart, c_NotEq_exchange_exstart, c_NotEq_exstart_exstart, c_NotEq_exchange_exchange, c_NotEq_full_full, c_NotEq_loading_full, c_NotEq__, c_NotEq_loading_exchange, c_NotEq_loading_exstart, b_rng9]
  · exact ⟨fun _ _ _ _ _ _ => rfl, .inl ⟨rfl, f.packets, f.wanted, rfl⟩⟩
  · intro k ρ σ u ⟨a, h⟩
    have fl := a.at f.low (by decide +kernel)
    have fh := a.at f.high (by decide +kernel)
    have fe := a.at f.events (by decide +kernel)
    rcases h with ⟨rfl, hpk, hw, rfl⟩ | ⟨s, L, H, c, Z1, Z2, sl, b', t', b'', t'', ⟨hs0, hs1⟩, hL, hH, hY, hX, hpk, hw, rfl⟩
    · have h1 := lowS o0 (.list (Xs.map hdv)) (.list (Ys.map hdv)) (B := tk q true N (Ys.map hdv) (pk 7 N []) 9 5 "exstart" .none 8) (R2 := []) (e1 := []) (e2 := []) P (p := p) (s := 40) (l := Xs.map hdv) (st := pk 7 40 []) (met := .none) N
      simp only [← List.map_drop, ← List.map_take] at h1
      have hb := bt0 ((Xs.drop p).map hdv)
      generalize bts false ((Xs.drop p).map hdv) = b at *
      have hXn' : (Xs.take p).Nodup := hXn.sublist (List.take_sublist _ _)
      have hXl' : (Xs.take p).length < 1000 := by rw [List.length_take]; omega
      have h2 := highS o0 (.list (Xs.map hdv)) (.list (Ys.map hdv)) (A := tk p false N ((Xs.drop p).map hdv) (pk b N ((Xs.take p).map hdv)) 5 9 "exchange" (pk 7 N []) 7) (R1 := []) (e1 := [neg]) (e2 := []) P (p := q) (s := N) (l := Ys.map hdv) (met := .none) b (Xs.take p) hb hXn' hXl'
      simp only [← List.map_drop, ← List.map_take] at h2
      refine ⟨(((((ρ.put (Str.ofString "turn") u).put (Str.ofString "told") (.lst [neg])).put (Str.ofString "answers") (.lst [pk b N ((Xs.take p).map hdv)])).put (Str.ofString "told") (.lst [neg])).put (Str.ofString "packets") (.lst [pk (bts true ((Ys.drop q).map hdv)) (nx N) ((Ys.take q).map hdv)])).put (Str.ofString "wanted") (.int (nx N)),
        S o0 (.list (Xs.map hdv)) (.list (Ys.map hdv)) (tk p false N ((Xs.drop p).map hdv) (pk b N ((Xs.take p).map hdv)) 5 9 "exchange" (pk 7 N []) 7) (tk q true (nx N) ((Ys.drop q).map hdv) (pk (bts true ((Ys.drop q).map hdv)) (nx N) ((Ys.take q).map hdv)) 9 5 "exchange" (pk b N ((Xs.take p).map hdv)) 8) [] ((Xs.take p).map ent) [neg] [neg], ?_, .inr ⟨5, by omega, ?_, .inr ?_⟩⟩
      · have hpp : cmpV (S o0 (.list (Xs.map hdv)) (.list (Ys.map hdv)) (tk p true 40 (Xs.map hdv) (pk 7 40 []) 5 9 "exstart" .none 7) (tk q true N (Ys.map hdv) (pk 7 N []) 9 5 "exstart" .none 8) [] [] [] []) .Eq (.lst [pk 7 N []]) (.lst []) = some false := c_pk _ 7 N []
        simp (disch := first | assumption | decide +kernel | (simp [n_add, itemV, natOf]; done) | fail) [↓lam_t, ↓lk_talk, ↓nm_l, ↓nm_g, ↓put_s, ↓put_n, ↓binds_s, ↓binds_n, ↓w_name, ↓mut_f, ↓mut_t, ↓base_t, evB, evS, evE, evEs, evP, evO, evT, evA, evW, evWs, truth, natOf, itemV, tk_len, swap_na, noTop, itemsV, intsV, g_mtu, g_options, g_portion, g_is_master, g_seq, g_left, g_sent, g_own, g_other, g_stage, g_met, g_requests, a_mtu, a_options, a_portion, a_is_master, a_seq, a_left, a_sent, a_own, a_other, a_stage, a_met, a_requests, u_is_master, u_seq, u_left, u_sent, u_stage, u_met, u_requests, n_begin, n_take, n_is_double, n_is_wrong, n_take_first, n_take_next, n_led, n_followed, n_ended, n_first, n_next_packet, n_has_told_all, m_begin, m_take, m_is_double, m_is_wrong, m_take_first, m_take_next, m_led, m_followed, m_ended, m_first, m_next_packet, m_has_told_all, glDescribing, glMASTER, glMORE, glINIT, glNUMBERS, glEXTERNAL, glGREATEST_KIND, glbarred, glkey_of, glExchange, gl_law_take, gl_law_heads, gl_law_is_mismatch, gllen, glabs, glsorted, gltuple, gllist, glrange, b_len_tup, b_len_lst, b_len_obj, b_abs, b_tuple, b_list, c_lt, c_gt, c_le, c_ge, c_eq, c_ne, c_bool, c_is0, c_is1, c_isn0, c_isn1, c_t3, n_and, n_or, n_add, n_sub, n_mod, n_cat, cut_hi, cut_lo, cut_25, c_Eq_exchange_exstart, c_Eq_exstart_exstart, c_Eq_exchange_exchange, c_Eq_full_full, c_Eq_loading_full, c_Eq__, c_Eq_loading_exchange, c_Eq_loading_exstart, c_NotEq_exchange_exstart, c_NotEq_exstart_exstart, c_NotEq_exchange_exchange, c_NotEq_full_full, c_NotEq_loading_full, c_NotEq__, c_NotEq_loading_exchange, c_NotEq_loading_exstart, S_3, S_5, S_9, S_10, S_u9, S_u10, fl, fh, fe, hpk, hw, hpp, h1, h2, swap_call, n_pow, -List.map_take, -List.map_drop]
      · exact (((((a.put u (.inl rfl)).put _ (.inr (.inl rfl))).put _ (.inr (.inr (.inl rfl)))).put _ (.inr (.inl rfl))).put _ (.inr (.inr (.inr (.inl rfl))))).put _ (.inr (.inr (.inr (.inr rfl))))
      · exact ⟨N, Xs.drop p, Ys.drop q, Ys.take q, [], Xs.take p, _, _, _, _, _, ⟨hN0, hN1⟩, by rw [List.length_drop]; omega, by rw [List.length_drop]; omega, by simp, by simp, by simp (disch := decide +kernel) only [↓put_s, ↓put_n], by simp (disch := decide +kernel) only [↓put_s, ↓put_n], rfl⟩
    · have hw2 := nx_ne hs0 hs1
      have hpp : ∀ σ, cmpV σ .Eq (.lst [pk (bts true (H.map hdv)) (nx s) (c.map hdv)]) (.lst []) = some false := fun σ => c_pk σ _ _ _
      have hYc : (Z1 ++ c).Nodup := by
        rw [← hY, ← List.append_assoc] at hYn; exact (List.nodup_append.mp hYn).1
      have hYcl : (Z1 ++ c).length < 1000 := by
        have := congrArg List.length hY
        simp only [List.length_append] at this ⊢
        omega
      have hX' : Z2 ++ L.take p ++ L.drop p = Xs := by rw [List.append_assoc, List.take_append_drop]; exact hX
      have hXc : (Z2 ++ L.take p).Nodup := by
        rw [← hX'] at hXn; exact (List.nodup_append.mp hXn).1
      have hXcl : (Z2 ++ L.take p).length < 1000 := by
        have := congrArg List.length hX'
        simp only [List.length_append] at this ⊢
        omega
      by_cases hend : L.drop p = [] ∧ H = []
      · obtain ⟨hLd, rfl⟩ := hend
        have hYf : Z1 ++ c = Ys := by rw [← hY, List.append_nil]
        have hXf : Z2 ++ L.take p = Xs := by rw [← hX', hLd, List.append_nil]
        have hYne : Z1 ++ c ≠ [] := fun q => by rw [hYf] at q; rw [q] at hYl; simp at hYl; omega
        have hXne : Z2 ++ L.take p ≠ [] := fun q => by rw [hXf] at q; rw [q] at hXl; simp at hXl; omega
        have h1 := lowA o0 (.list (Xs.map hdv)) (.list (Ys.map hdv)) (B := tk q true (nx s) [] (pk 1 (nx s) (c.map hdv)) 9 5 "exchange" (pk b'' s t'') 8) (R2 := Z2.map ent) (e1 := [neg]) (e2 := [neg]) P (p := p) (s := s) (l := L.map hdv) (st := sl) b' t' c Z1 hs0 hs1 hYc hYcl hYne (by rw [← List.map_drop, hLd]; rfl)
        simp only [← List.map_drop, ← List.map_take] at h1
        have h2 := highA o0 (.list (Xs.map hdv)) (.list (Ys.map hdv)) (A := tk p false (nx s) [] (pk 0 (nx s) ((L.take p).map hdv)) 5 9 "loading" (pk 1 (nx s) (c.map hdv)) 7) (R1 := (Z1 ++ c).map ent) (e1 := [neg, exd]) (e2 := [neg]) P (p := q) (s := nx s) (l := []) 1 b'' s (c.map hdv) t'' (L.take p) Z2 hw2 hXc hXcl hXne (by decide)
        simp only [List.map_nil, bts] at hpk hpp ⊢
        refine ⟨(((((ρ.put (Str.ofString "turn") u).put (Str.ofString "told") (.lst [exd])).put (Str.ofString "answers") (.lst [pk 0 (nx s) ((L.take p).map hdv)])).put (Str.ofString "told") (.lst [exd])).put (Str.ofString "packets") (.lst [])).put (Str.ofString "wanted") (.int (nx (nx s))), _, ?_, .inl ⟨?_, ?_, ⟨nx s, [], pk 0 (nx s) ((L.take p).map hdv), pk 1 (nx s) (c.map hdv), nx s, [], pk 1 (nx s) (c.map hdv), pk 0 (nx s) ((L.take p).map hdv), rfl⟩⟩⟩
        · rw [← hYf, ← hXf] at *
          simp (disch := first | assumption | decide +kernel | (simp [n_add, itemV, natOf]; done) | fail) [↓lam_t, ↓lk_talk, ↓nm_l, ↓nm_g, ↓put_s, ↓put_n, ↓binds_s, ↓binds_n, ↓w_name, ↓mut_f, ↓mut_t, ↓base_t, evB, evS, evE, evEs, evP, evO, evT, evA, evW, evWs, truth, natOf, itemV, tk_len, swap_na, noTop, itemsV, intsV, g_mtu, g_options, g_portion, g_is_master, g_seq, g_left, g_sent, g_own, g_other, g_stage, g_met, g_requests, a_mtu, a_options, a_portion, a_is_master, a_seq, a_left, a_sent, a_own, a_other, a_stage, a_met, a_requests, u_is_master, u_seq, u_left, u_sent, u_stage, u_met, u_requests, n_begin, n_take, n_is_double, n_is_wrong, n_take_first, n_take_next, n_led, n_followed, n_ended, n_first, n_next_packet, n_has_told_all, m_begin, m_take, m_is_double, m_is_wrong, m_take_first, m_take_next, m_led, m_followed, m_ended, m_first, m_next_packet, m_has_told_all, glDescribing, glMASTER, glMORE, glINIT, glNUMBERS, glEXTERNAL, glGREATEST_KIND, glbarred, glkey_of, glExchange, gl_law_take, gl_law_heads, gl_law_is_mismatch, gllen, glabs, glsorted, gltuple, gllist, glrange, b_len_tup, b_len_lst, b_len_obj, b_abs, b_tuple, b_list, c_lt, c_gt, c_le, c_ge, c_eq, c_ne, c_bool, c_is0, c_is1, c_isn0, c_isn1, c_t3, n_and, n_or, n_add, n_sub, n_mod, n_cat, cut_hi, cut_lo, cut_25, c_Eq_exchange_exstart, c_Eq_exstart_exstart, c_Eq_exchange_exchange, c_Eq_full_full, c_Eq_loading_full, c_Eq__, c_Eq_loading_exchange, c_Eq_loading_exstart, c_NotEq_exchange_exstart, c_NotEq_exstart_exstart, c_NotEq_exchange_exchange, c_NotEq_full_full, c_NotEq_loading_full, c_NotEq__, c_NotEq_loading_exchange, c_NotEq_loading_exstart, S_3, S_5, S_9, S_10, S_u9, S_u10, fl, fh, fe, hpk, hw, hpp, h1, h2, swap_call, n_pow, -List.map_take, -List.map_drop, -List.map_append]
        · exact (((((a.put u (.inl rfl)).put _ (.inr (.inl rfl))).put _ (.inr (.inr (.inl rfl)))).put _ (.inr (.inl rfl))).put _ (.inr (.inr (.inr (.inl rfl))))).put _ (.inr (.inr (.inr (.inr rfl))))
        · simp (disch := decide +kernel) only [↓put_s, ↓put_n]
      · have hk : 0 < k := by
          rcases Nat.eq_zero_or_pos k with rfl | h
          · exact absurd ⟨by rw [List.length_eq_zero_iff.mp (Nat.le_zero.mp hL), List.drop_nil], List.length_eq_zero_iff.mp (Nat.le_zero.mp hH)⟩ hend
          · exact h
        have h1 := lowB o0 (.list (Xs.map hdv)) (.list (Ys.map hdv)) (B := tk q true (nx s) (H.map hdv) (pk (bts true (H.map hdv)) (nx s) (c.map hdv)) 9 5 "exchange" (pk b'' s t'') 8) (R2 := Z2.map ent) (e1 := [neg]) (e2 := [neg]) P (p := p) (s := s) (l := L.map hdv) (st := sl) (bts true (H.map hdv)) b' t' c Z1 (bt1 _) hs0 hs1 hYc hYcl (by
          rw [bts_and, ← List.map_drop, List.map_eq_nil_iff, List.map_eq_nil_iff]; exact hend)
        simp only [← List.map_drop, ← List.map_take] at h1
        have h2 := highB o0 (.list (Xs.map hdv)) (.list (Ys.map hdv)) (A := tk p false (nx s) ((L.drop p).map hdv) (pk (bts false ((L.drop p).map hdv)) (nx s) ((L.take p).map hdv)) 5 9 "exchange" (pk (bts true (H.map hdv)) (nx s) (c.map hdv)) 7) (R1 := (Z1 ++ c).map ent) (e1 := [neg]) (e2 := [neg]) P (p := q) (s := nx s) (l := H.map hdv) (bts false ((L.drop p).map hdv)) (bts true (H.map hdv)) b'' s (c.map hdv) t'' (L.take p) Z2 (bt0 _) hw2 hXc hXcl (by
          rw [bts_and, bts_and, List.map_eq_nil_iff, List.map_eq_nil_iff]; exact fun q => hend ⟨q.2, q.1⟩)
        simp only [← List.map_drop, ← List.map_take] at h2
        refine ⟨(((((ρ.put (Str.ofString "turn") u).put (Str.ofString "told") (.lst [])).put (Str.ofString "answers") (.lst [pk (bts false ((L.drop p).map hdv)) (nx s) ((L.take p).map hdv)])).put (Str.ofString "told") (.lst [])).put (Str.ofString "packets") (.lst [pk (bts true ((H.drop q).map hdv)) (nx (nx s)) ((H.take q).map hdv)])).put (Str.ofString "wanted") (.int (nx (nx s))), _, ?_, .inr ⟨k - 1, by omega, ?_, .inr ⟨nx s, L.drop p, H.drop q, H.take q, Z1 ++ c, Z2 ++ L.take p, pk (bts false ((L.drop p).map hdv)) (nx s) ((L.take p).map hdv), bts true (H.map hdv), c.map hdv, bts false ((L.drop p).map hdv), (L.take p).map hdv, nx_lo, by rw [List.length_drop]; omega, by rw [List.length_drop]; omega, by rw [List.take_append_drop, List.append_assoc]; exact hY, hX', ?_, ?_, rfl⟩⟩⟩
        · simp (disch := first | assumption | decide +kernel | (simp [n_add, itemV, natOf]; done) | fail) [↓lam_t, ↓lk_talk, ↓nm_l, ↓nm_g, ↓put_s, ↓put_n, ↓binds_s, ↓binds_n, ↓w_name, ↓mut_f, ↓mut_t, ↓base_t, evB, evS, evE, evEs, evP, evO, evT, evA, evW, evWs, truth, natOf, itemV, tk_len, swap_na, noTop, itemsV, intsV, g_mtu, g_options, g_portion, g_is_master, g_seq, g_left, g_sent, g_own, g_other, g_stage, g_met, g_requests, a_mtu, a_options, a_portion, a_is_master, a_seq, a_left, a_sent, a_own, a_other, a_stage, a_met, a_requests, u_is_master, u_seq, u_left, u_sent, u_stage, u_met, u_requests, n_begin, n_take, n_is_double, n_is_wrong, n_take_first, n_take_next, n_led, n_followed, n_ended, n_first, n_next_packet, n_has_told_all, m_begin, m_take, m_is_double, m_is_wrong, m_take_first, m_take_next, m_led, m_followed, m_ended, m_first, m_next_packet, m_has_told_all, glDescribing, glMASTER, glMORE, glINIT, glNUMBERS, glEXTERNAL, glGREATEST_KIND, glbarred, glkey_of, glExchange, gl_law_take, gl_law_heads, gl_law_is_mismatch, gllen, glabs, glsorted, gltuple, gllist, glrange, b_len_tup, b_len_lst, b_len_obj, b_abs, b_tuple, b_list, c_lt, c_gt, c_le, c_ge, c_eq, c_ne, c_bool, c_is0, c_is1, c_isn0, c_isn1, c_t3, n_and, n_or, n_add, n_sub, n_mod, n_cat, cut_hi, cut_lo, cut_25, c_Eq_exchange_exstart, c_Eq_exstart_exstart, c_Eq_exchange_exchange, c_Eq_full_full, c_Eq_loading_full, c_Eq__, c_Eq_loading_exchange, c_Eq_loading_exstart, c_NotEq_exchange_exstart, c_NotEq_exstart_exstart, c_NotEq_exchange_exchange, c_NotEq_full_full, c_NotEq_loading_full, c_NotEq__, c_NotEq_loading_exchange, c_NotEq_loading_exstart, S_3, S_5, S_9, S_10, S_u9, S_u10, fl, fh, fe, hpk, hw, hpp, h1, h2, swap_call, n_pow, -List.map_take, -List.map_drop, -List.map_append]
        · exact (((((a.put u (.inl rfl)).put _ (.inr (.inl rfl))).put _ (.inr (.inr (.inl rfl)))).put _ (.inr (.inl rfl))).put _ (.inr (.inr (.inr (.inl rfl))))).put _ (.inr (.inr (.inr (.inr rfl))))
        · simp (disch := decide +kernel) only [↓put_s, ↓put_n]
        · simp (disch := decide +kernel) only [↓put_s, ↓put_n]
  · intro ρ σ u ⟨a, hpk, h⟩
    refine ⟨ρ.put (Str.ofString "turn") u, ?_, a.put u (.inl rfl), ?_, h⟩
    · simp (disch := first | assumption | decide +kernel | (simp [n_add, itemV, natOf]; done) | fail) [↓lam_t, ↓lk_talk, ↓nm_l, ↓nm_g, ↓put_s, ↓put_n, ↓binds_s, ↓binds_n, ↓w_name, ↓mut_f, ↓mut_t, ↓base_t, evB, evS, evE, evEs, evP, evO, evT, evA, evW, evWs, truth, natOf, itemV, tk_len, swap_na, noTop, itemsV, intsV, g_mtu, g_options, g_portion, g_is_master, g_seq, g_left, g_sent, g_own, g_other, g_stage, g_met, g_requests, a_mtu, a_options, a_portion, a_is_master, a_seq, a_left, a_sent, a_own, a_other, a_stage, a_met, a_requests, u_is_master, u_seq, u_left, u_sent, u_stage, u_met, u_requests, n_begin, n_take, n_is_double, n_is_wrong, n_take_first, n_take_next, n_led, n_followed, n_ended, n_first, n_next_packet, n_has_told_all, m_begin, m_take, m_is_double, m_is_wrong, m_take_first, m_take_next, m_led, m_followed, m_ended, m_first, m_next_packet, m_has_told_all, glDescribing, glMASTER, glMORE, glINIT, glNUMBERS, glEXTERNAL, glGREATEST_KIND, glbarred, glkey_of, glExchange, gl_law_take, gl_law_heads, gl_law_is_mismatch, gllen, glabs, glsorted, gltuple, gllist, glrange, b_len_tup, b_len_lst, b_len_obj, b_abs, b_tuple, b_list, c_lt, c_gt, c_le, c_ge, c_eq, c_ne, c_bool, c_is0, c_is1, c_isn0, c_isn1, c_t3, n_and, n_or, n_add, n_sub, n_mod, n_cat, cut_hi, cut_lo, cut_25, c_Eq_exchange_exstart, c_Eq_exstart_exstart, c_Eq_exchange_exchange, c_Eq_full_full, c_Eq_loading_full, c_Eq__, c_Eq_loading_exchange, c_Eq_loading_exstart, c_NotEq_exchange_exstart, c_NotEq_exstart_exstart, c_NotEq_exchange_exchange, c_NotEq_full_full, c_NotEq_loading_full, c_NotEq__, c_NotEq_loading_exchange, c_NotEq_loading_exstart, hpk, c_nil]
    · simp (disch := decide +kernel) only [↓put_s, ↓put_n, hpk]
  intro ρ σ ⟨a, hpk, s1, l1, st1, m1, s2, l2, st2, m2, hσ⟩
  have fl := a.at f.low (by decide +kernel)
  have fh := a.at f.high (by decide +kernel)
  have fe := a.at f.events (by decide +kernel)
  have fr := a.at f.rows (by decide +kernel)
  have fn := a.at f.number (by decide +kernel)
  have ff := a.at f.first (by decide +kernel)
  subst hσ
  refine Law_same _ (by
    simp (disch := first | assumption | decide +kernel | (simp [n_add, itemV, natOf]; done) | fail) [↓lam_t, ↓lk_talk, ↓nm_l, ↓nm_g, ↓put_s, ↓put_n, ↓binds_s, ↓binds_n, ↓w_name, ↓mut_f, ↓mut_t, ↓base_t, evB, evS, evE, evEs, evP, evO, evT, evA, evW, evWs, truth, natOf, itemV, tk_len, swap_na, noTop, itemsV, intsV, g_mtu, g_options, g_portion, g_is_master, g_seq, g_left, g_sent, g_own, g_other, g_stage, g_met, g_requests, a_mtu, a_options, a_portion, a_is_master, a_seq, a_left, a_sent, a_own, a_other, a_stage, a_met, a_requests, u_is_master, u_seq, u_left, u_sent, u_stage, u_met, u_requests, n_begin, n_take, n_is_double, n_is_wrong, n_take_first, n_take_next, n_led, n_followed, n_ended, n_first, n_next_packet, n_has_told_all, m_begin, m_take, m_is_double, m_is_wrong, m_take_first, m_take_next, m_led, m_followed, m_ended, m_first, m_next_packet, m_has_told_all, glDescribing, glMASTER, glMORE, glINIT, glNUMBERS, glEXTERNAL, glGREATEST_KIND, glbarred, glkey_of, glExchange, gl_law_take, gl_law_heads, gl_law_is_mismatch, gllen, glabs, glsorted, gltuple, gllist, glrange, b_len_tup, b_len_lst, b_len_obj, b_abs, b_tuple, b_list, c_lt, c_gt, c_le, c_ge, c_eq, c_ne, c_bool, c_is0, c_is1, c_isn0, c_isn1, c_t3, n_and, n_or, n_add, n_sub, n_mod, n_cat, cut_hi, cut_lo, cut_25, c_Eq_exchange_exstart, c_Eq_exstart_exstart, c_Eq_exchange_exchange, c_Eq_full_full, c_Eq_loading_full, c_Eq__, c_Eq_loading_exchange, c_Eq_loading_exstart, c_NotEq_exchange_exstart, c_NotEq_exstart_exstart, c_NotEq_exchange_exchange, c_NotEq_full_full, c_NotEq_loading_full, c_NotEq__, c_NotEq_loading_exchange, c_NotEq_loading_exstart, S_3, S_5, fl, fh, fe, hpk, c_nilne, c_ev, c_st, n_mul2]
    rfl) ?_
  have bY := sorted_rows 30 d2 (.inr rfl) (by omega)
  have bX := sorted_rows 10 d1 (.inl rfl) (by omega)
  rw [hYs] at bY
  rw [hXs] at bX
  have bY' := fun A B R2 e1 e2 => bY (S o0 (.list (Xs.map hdv)) (.list (Ys.map hdv)) A B (Ys.map ent) R2 e1 e2) 7 rfl
  have bX' := fun A B R1 e1 e2 T => bX (S o0 (.list (Xs.map hdv)) (.list (Ys.map hdv)) A B R1 (Xs.map ent) e1 e2 ++ T) 8 rfl
  have lY := fun (f : V → St → Option (Option V × St)) A B R1 R2 e1 e2 => loopC_list kv Ys 2 (by omega) (f := f) (S o0 (.list (Xs.map hdv)) (.list (Ys.map hdv)) A B R1 R2 e1 e2) rfl
  have lX := fun (f : V → St → Option (Option V × St)) A B R1 R2 e1 e2 T => loopC_list kv Xs 1 (by omega) (f := f) (S o0 (.list (Xs.map hdv)) (.list (Ys.map hdv)) A B R1 R2 e1 e2 ++ T) rfl
  refine Law_put4 (Str.ofString "talk") (.obj 3) (Str.ofString "others") (.obj 2) (Str.ofString "talk") (.obj 5) (Str.ofString "others") (.obj 1)
    (S o0 (.list (Xs.map hdv)) (.list (Ys.map hdv)) (tk p false s1 l1 st1 5 9 "loading" m1 7) (tk q true s2 l2 st2 9 5 "loading" m2 8) (Ys.map ent) (Xs.map ent) [neg, exd] [neg, exd] ++ [.list (Ys.map kv)] ++ [.list (Xs.map kv)]) ?_ ?_
  · simp (disch := first | assumption | decide +kernel | (simp [n_add, itemV, natOf]; done) | fail) [↓lam_t, ↓lk_talk, ↓nm_l, ↓nm_g, ↓put_s, ↓put_n, ↓binds_s, ↓binds_n, ↓w_name, ↓mut_f, ↓mut_t, ↓base_t, evB, evS, evE, evEs, evP, evO, evT, evA, evW, evWs, truth, natOf, itemV, tk_len, swap_na, noTop, itemsV, intsV, g_mtu, g_options, g_portion, g_is_master, g_seq, g_left, g_sent, g_own, g_other, g_stage, g_met, g_requests, a_mtu, a_options, a_portion, a_is_master, a_seq, a_left, a_sent, a_own, a_other, a_stage, a_met, a_requests, u_is_master, u_seq, u_left, u_sent, u_stage, u_met, u_requests, n_begin, n_take, n_is_double, n_is_wrong, n_take_first, n_take_next, n_led, n_followed, n_ended, n_first, n_next_packet, n_has_told_all, m_begin, m_take, m_is_double, m_is_wrong, m_take_first, m_take_next, m_led, m_followed, m_ended, m_first, m_next_packet, m_has_told_all, glDescribing, glMASTER, glMORE, glINIT, glNUMBERS, glEXTERNAL, glGREATEST_KIND, glbarred, glkey_of, glExchange, gl_law_take, gl_law_heads, gl_law_is_mismatch, gllen, glabs, glsorted, gltuple, gllist, glrange, b_len_tup, b_len_lst, b_len_obj, b_abs, b_tuple, b_list, c_lt, c_gt, c_le, c_ge, c_eq, c_ne, c_bool, c_is0, c_is1, c_isn0, c_isn1, c_t3, n_and, n_or, n_add, n_sub, n_mod, n_cat, cut_hi, cut_lo, cut_25, c_Eq_exchange_exstart, c_Eq_exstart_exstart, c_Eq_exchange_exchange, c_Eq_full_full, c_Eq_loading_full, c_Eq__, c_Eq_loading_exchange, c_Eq_loading_exstart, c_NotEq_exchange_exstart, c_NotEq_exstart_exstart, c_NotEq_exchange_exchange, c_NotEq_full_full, c_NotEq_loading_full, c_NotEq__, c_NotEq_loading_exchange, c_NotEq_loading_exstart, ↓comp_t, ↓inner_s, ↓inner_f, tgt, evG, evI, getAt, lfuel, loopS, S_1, S_2, S_3, S_5, S_7, S_8, SA_1, SA_5, SA_8, fl, fh, fr, bX', bY', lX, lY, c_srt, -List.map_map, -List.append_assoc, -List.length_append]
  generalize S o0 (.list (Xs.map hdv)) (.list (Ys.map hdv)) (tk p false s1 l1 st1 5 9 "loading" m1 7) (tk q true s2 l2 st2 9 5 "loading" m2 8) (Ys.map ent) (Xs.map ent) [neg, exd] [neg, exd] ++ [.list (Ys.map kv)] ++ [.list (Xs.map kv)] = σ2
  refine Law_put (Str.ofString "later") (.int (nx N)) σ2 ?_ ?_
  · simp (disch := first | assumption | decide +kernel | (simp [n_add, itemV, natOf]; done) | fail) [↓lam_t, ↓lk_talk, ↓nm_l, ↓nm_g, ↓put_s, ↓put_n, ↓binds_s, ↓binds_n, ↓w_name, ↓mut_f, ↓mut_t, ↓base_t, evB, evS, evE, evEs, evP, evO, evT, evA, evW, evWs, truth, natOf, itemV, tk_len, swap_na, noTop, itemsV, intsV, g_mtu, g_options, g_portion, g_is_master, g_seq, g_left, g_sent, g_own, g_other, g_stage, g_met, g_requests, a_mtu, a_options, a_portion, a_is_master, a_seq, a_left, a_sent, a_own, a_other, a_stage, a_met, a_requests, u_is_master, u_seq, u_left, u_sent, u_stage, u_met, u_requests, n_begin, n_take, n_is_double, n_is_wrong, n_take_first, n_take_next, n_led, n_followed, n_ended, n_first, n_next_packet, n_has_told_all, m_begin, m_take, m_is_double, m_is_wrong, m_take_first, m_take_next, m_led, m_followed, m_ended, m_first, m_next_packet, m_has_told_all, glDescribing, glMASTER, glMORE, glINIT, glNUMBERS, glEXTERNAL, glGREATEST_KIND, glbarred, glkey_of, glExchange, gl_law_take, gl_law_heads, gl_law_is_mismatch, gllen, glabs, glsorted, gltuple, gllist, glrange, b_len_tup, b_len_lst, b_len_obj, b_abs, b_tuple, b_list, c_lt, c_gt, c_le, c_ge, c_eq, c_ne, c_bool, c_is0, c_is1, c_isn0, c_isn1, c_t3, n_and, n_or, n_add, n_sub, n_mod, n_cat, cut_hi, cut_lo, cut_25, c_Eq_exchange_exstart, c_Eq_exstart_exstart, c_Eq_exchange_exchange, c_Eq_full_full, c_Eq_loading_full, c_Eq__, c_Eq_loading_exchange, c_Eq_loading_exstart, c_NotEq_exchange_exstart, c_NotEq_exstart_exstart, c_NotEq_exchange_exchange, c_NotEq_full_full, c_NotEq_loading_full, c_NotEq__, c_NotEq_loading_exchange, c_NotEq_loading_exstart, n_pow, fn]
  obtain ⟨Ta, ia⟩ := t212 P 2 N (N + 2) (σ2 ++ [.list []])
  obtain ⟨Tb, ib⟩ := t212 P 2 N 4294967296 (σ2 ++ .list [] :: Ta)
  obtain ⟨Tc, ic⟩ := t212 P 2 N (nx N) (σ2 ++ .list [] :: (Ta ++ Tb))
  have n1 : ¬ N + 2 = nx N := by
    unfold nx
    rw [Int.fmod_eq_emod_of_nonneg _ (by decide)]
    omega
  have n2 : ¬ 4294967296 = nx N := fun q => by have := nx_lo (s := N); omega
  rw [decide_eq_false n1, List.append_assoc] at ia
  rw [decide_eq_false n2, List.append_assoc] at ib
  rw [decide_eq_true rfl] at ic
  simp only [List.cons_append, List.nil_append, Bool.not_false, Bool.not_true] at ia ib ic
  refine Law_put (Str.ofString "wrong") (.obj σ2.length) (σ2 ++ .list [] :: (Ta ++ Tb)) ?_ ?_
  · simp (disch := first | assumption | decide +kernel | (simp [n_add, itemV, natOf]; done) | fail) [↓lam_t, ↓lk_talk, ↓nm_l, ↓nm_g, ↓put_s, ↓put_n, ↓binds_s, ↓binds_n, ↓w_name, ↓mut_f, ↓mut_t, ↓base_t, evB, evS, evE, evEs, evP, evO, evT, evA, evW, evWs, truth, natOf, itemV, tk_len, swap_na, noTop, itemsV, intsV, g_mtu, g_options, g_portion, g_is_master, g_seq, g_left, g_sent, g_own, g_other, g_stage, g_met, g_requests, a_mtu, a_options, a_portion, a_is_master, a_seq, a_left, a_sent, a_own, a_other, a_stage, a_met, a_requests, u_is_master, u_seq, u_left, u_sent, u_stage, u_met, u_requests, n_begin, n_take, n_is_double, n_is_wrong, n_take_first, n_take_next, n_led, n_followed, n_ended, n_first, n_next_packet, n_has_told_all, m_begin, m_take, m_is_double, m_is_wrong, m_take_first, m_take_next, m_led, m_followed, m_ended, m_first, m_next_packet, m_has_told_all, glDescribing, glMASTER, glMORE, glINIT, glNUMBERS, glEXTERNAL, glGREATEST_KIND, glbarred, glkey_of, glExchange, gl_law_take, gl_law_heads, gl_law_is_mismatch, gllen, glabs, glsorted, gltuple, gllist, glrange, b_len_tup, b_len_lst, b_len_obj, b_abs, b_tuple, b_list, c_lt, c_gt, c_le, c_ge, c_eq, c_ne, c_bool, c_is0, c_is1, c_isn0, c_isn1, c_t3, n_and, n_or, n_add, n_sub, n_mod, n_cat, cut_hi, cut_lo, cut_25, c_Eq_exchange_exstart, c_Eq_exstart_exstart, c_Eq_exchange_exchange, c_Eq_full_full, c_Eq_loading_full, c_Eq__, c_Eq_loading_exchange, c_Eq_loading_exstart, c_NotEq_exchange_exstart, c_NotEq_exstart_exstart, c_NotEq_exchange_exchange, c_NotEq_full_full, c_NotEq_loading_full, c_NotEq__, c_NotEq_loading_exchange, c_NotEq_loading_exstart, ↓comp_t, ↓inner_s, ↓inner_f, tgt, evG, evI, getAt, lfuel, n_pow, fn, ff, loopC_at, ia, ib]
  refine Law_ret ((σ2 ++ .list [] :: (Ta ++ Tb)) ++ Tc) ?_
  simp (disch := first | assumption | decide +kernel | (simp [n_add, itemV, natOf]; done) | fail) [↓lam_t, ↓lk_talk, ↓nm_l, ↓nm_g, ↓put_s, ↓put_n, ↓binds_s, ↓binds_n, ↓w_name, ↓mut_f, ↓mut_t, ↓base_t, evB, evS, evE, evEs, evP, evO, evT, evA, evW, evWs, truth, natOf, itemV, tk_len, swap_na, noTop, itemsV, intsV, g_mtu, g_options, g_portion, g_is_master, g_seq, g_left, g_sent, g_own, g_other, g_stage, g_met, g_requests, a_mtu, a_options, a_portion, a_is_master, a_seq, a_left, a_sent, a_own, a_other, a_stage, a_met, a_requests, u_is_master, u_seq, u_left, u_sent, u_stage, u_met, u_requests, n_begin, n_take, n_is_double, n_is_wrong, n_take_first, n_take_next, n_led, n_followed, n_ended, n_first, n_next_packet, n_has_told_all, m_begin, m_take, m_is_double, m_is_wrong, m_take_first, m_take_next, m_led, m_followed, m_ended, m_first, m_next_packet, m_has_told_all, glDescribing, glMASTER, glMORE, glINIT, glNUMBERS, glEXTERNAL, glGREATEST_KIND, glbarred, glkey_of, glExchange, gl_law_take, gl_law_heads, gl_law_is_mismatch, gllen, glabs, glsorted, gltuple, gllist, glrange, b_len_tup, b_len_lst, b_len_obj, b_abs, b_tuple, b_list, c_lt, c_gt, c_le, c_ge, c_eq, c_ne, c_bool, c_is0, c_is1, c_isn0, c_isn1, c_t3, n_and, n_or, n_add, n_sub, n_mod, n_cat, cut_hi, cut_lo, cut_25, c_Eq_exchange_exstart, c_Eq_exstart_exstart, c_Eq_exchange_exchange, c_Eq_full_full, c_Eq_loading_full, c_Eq__, c_Eq_loading_exchange, c_Eq_loading_exstart, c_NotEq_exchange_exstart, c_NotEq_exstart_exstart, c_NotEq_exchange_exchange, c_NotEq_full_full, c_NotEq_loading_full, c_NotEq__, c_NotEq_loading_exchange, c_NotEq_loading_exstart, ff, fn, ic, c_objnil]
end Mine

end
section
open PySem PySem.W PyProof.Rows PySem.Calls
set_option Elab.async false
set_option maxRecDepth 100000
set_option maxHeartbeats 8000000
namespace Mine
/-- the facts of the law, by computation -/
noncomputable def lawB (fd : FuncData) : Bool :=
  decide (fd.scope.kind = .function) && (fd.scope.names.all fun y => !(y.2 == .free)) && decide (fd.params.args.map (·.arg) = [Str.ofString "script"]) &&
  (fd.scope.names.lookup (Str.ofString "script") == some .local) && decide ((fd.name ++ ".<locals>.") ++ "<lambda>" = qualT 214)
theorem law_b (P : Params) : (match fdOf (hd.heap_1 P) 217 with | some fd => lawB fd | none => false) = true := by kernel_rfl
theorem ints_rv {θ : Th} {h : Heap} : ∀ {ns : List Int} {vs : List Value}, IntsAre vs ns → RVs θ h (ns.map V.int) vs
  | _, _, .nil => rfl
  | _, _, .cons _ _ r => ⟨_, _, rfl, ⟨_, rfl⟩, ints_rv r⟩
theorem map_ints {ns : List Int} : (ns.map V.int).take 12 = (ns.take 12).map V.int := by rw [List.map_take]

theorem join {prog : Program} {w : World} {s₁ : Shared} {h₁ G : Heap} {L fa la : Addr} {tk : Nat} {mg mb : Str → Option Value} {loose : List Str} {mean : ExcName → Option Value} {topp : Program} {vs : List Value} {ns : List Int} {wo : Obj} {vo : Option Value}
    {m : Str → Option Value} {b : List Stmt} {fd : FuncData}
    (hfd : fdOf (hd.heap_1 w.params) 217 = some fd) (hb : fd.body = .stmts b) (X : (hd.heap_1 w.params).In G) (T : Top topp loose mean mg mb G) (hNUM : ∃ t, mg "NUMBERS" = some (.int 4294967296 t)) (hsys : ∃ o, G.get? sysModules = some o)
    (hc1 : CodeHd G 211 207) (hc2 : CodeHd G 216 214) (F : Fr G L h₁ m) (N : News G L h₁ [(L + 1, wo), (207, tabObj #[]), (214, tabObj #[])]) (hwo : wo.data = .cell vo)
    (hm : m (Str.ofString "script") = some (.ref la)) (hcells : cellsFrom (L + 1) fd.scope.names [] = [(Str.ofString "first", L + 1)]) (hla : G.get? la = some (lstO vs 0)) (hI : IntsAre vs ns) (hlen : ns.length ≤ 63)
    {Q : Flow → Shared → Prop} {E : Value → Shared → Prop}
    (hQ : ∀ h' n', (∀ b o, G.get? b = some o → h'.get? b = some o) → (∀ P ∈ tabs, ∃ ps, h'.get? P = some (tabObj ps)) → Q (.ret (.bool true)) ⟨h', s₁.gens, s₁.drawn, n', s₁.os⟩) :
    wpAny (model prog w) (callerA.deeper (envOfC fd.name fd.scope L fa (.ref 216))) (execs b (envOfC fd.name fd.scope L fa (.ref 216))) Q E ⟨h₁, s₁.gens, s₁.drawn, tk, s₁.os⟩ := by
  let c : Cx := { prog := prog, w := w, gens := s₁.gens, drawn := s₁.drawn, os := s₁.os, b := G, K := hd.heap_1 w.params, mg := mg, mb := mb, loose := loose, mean := mean }
  have lb := law_b w.params
  rw [hfd] at lb
  dsimp only at lb
  unfold lawB at lb
  simp only [Bool.and_eq_true] at lb
  obtain ⟨⟨⟨⟨l1, l2⟩, l3⟩, l4⟩, l5⟩ := lb
  have l1 := of_decide_eq_true l1
  have l3 := of_decide_eq_true l3
  have l4 := eq_of_beq l4
  have l5 := of_decide_eq_true l5
  have n0 := N (L + 1, wo) (.head _)
  have n1 := N (207, tabObj #[]) (.tail _ (.head _))
  have n2 := N (214, tabObj #[]) (.tail _ (.tail _ (.head _)))
  have off : ∀ P ∈ tabs, G.get? P = none := fun P hP => by
    rcases List.mem_cons.mp hP with rfl | hP
    · exact n1.2.2
    · rcases List.mem_cons.mp hP with rfl | hP
      · exact n2.2.2
      · cases hP
  have O : CxOk c := cx_ok (c := c) rfl X T off hNUM
  have lo : ∀ m, c.b.get? m = none → (m == sysModules) = false := fun m hm => by
    obtain ⟨o, ho⟩ := hsys
    refine beq_eq_false_iff_ne.mpr fun q => ?_
    rw [q] at hm
    rw [show c.b = G from rfl, ho] at hm; cases hm
  have Y : SysOk c := ⟨lo, sort_ok lo⟩
  have Fs : FnsOk c := fnsOk w.params rfl hc1
  have tabAt : ∀ P, h₁.get? P = some (tabObj #[]) → TabOk h₁ P := fun P hP => ⟨#[], hP, by first | exact trivial | simp [TriplesOk] | decide, fun pos cv q => by first | cases q | (simp [codeAmong] at q)⟩
  have R : Rep c [] [] h₁ := by
    refine ⟨fun b o e => F.keep b o e, rfl, List.nodup_nil, fun m hm => (by cases hm), off, fun i m p hi => by simp at hi, fun P hP => ?_⟩
    rcases List.mem_cons.mp hP with rfl | hP
    · exact tabAt _ n1.1
    · rcases List.mem_cons.mp hP with rfl | hP
      · exact tabAt _ n2.1
      · cases hP
  have hL : L ∉ tabs := fun q => by
    rcases List.mem_cons.mp q with rfl | q
    · exact n1.2.1 rfl
    · rcases List.mem_cons.mp q with rfl | q
      · exact n2.2.1 rfl
      · cases q
  have hL1 : L + 1 ∉ tabs := fun q => by
    rcases List.mem_cons.mp q with q | q
    · have := n0.1; dsimp only at this; rw [q, n1.1] at this; cases this; cases hwo
    · rcases List.mem_cons.mp q with q | q
      · have := n0.1; dsimp only at this; rw [q, n2.1] at this; cases this; cases hwo
      · cases q
  generalize henv : envOfC fd.name fd.scope L fa (.ref 216) = env
  have hsc : env.scope = fd.scope := by rw [← henv]; rfl
  have hlo : env.locals = L := by rw [← henv]; rfl
  have hcs : env.cells = [(Str.ofString "first", L + 1)] := by rw [← henv]; exact hcells
  have hk : ∀ x, env.kindOf x = fd.scope.names.lookup x := fun x => by rw [← henv]; rfl
  have hone : ∀ x cl, env.cells.lookup x = some cl → x = Str.ofString "first" ∧ cl = L + 1 := fun x cl e => by
    rw [hcs, List.lookup_cons] at e
    split at e
    · rename_i q; cases e; exact ⟨eq_of_beq q, rfl⟩
    · cases e
  have hlaT : la ∉ muts ([] : Th) := by simp [muts]
  have hrv : RV [] h₁ (.lst (ns.map V.int)) (.ref la) := ⟨la, vs, 0, rfl, F.keep _ _ hla, hlaT, by have := (ints_rv (θ := []) (h := h₁) hI).length; rw [List.length_map] at this; unfold lcap; omega, ints_rv hI⟩
  have hρ : ∀ y u, binds fd.params.args [.lst (ns.map V.int)] y = some u → y = Str.ofString "script" ∧ u = .lst (ns.map V.int) := fun y u e => by
    unfold binds at e
    rw [l3] at e
    simp only [List.zip_cons_cons, List.zip_nil_left, aget] at e
    split at e
    · rename_i q; cases e; exact ⟨q.symm, rfl⟩
    · cases e
  have Fm : Frm env (binds fd.params.args [.lst (ns.map V.int)]) [] h₁ := by
    refine ⟨⟨by simp [muts], by rw [hlo]; exact hL⟩, ⟨m, by rw [hlo]; exact F.ns, fun y u _ hu => ?_⟩, fun y hy => ?_, fun x y cl hx hy => (hone x cl hx).1.trans (hone y cl hy).1.symm⟩
    · obtain ⟨rfl, rfl⟩ := hρ y u hu
      exact ⟨_, hm, hrv⟩
    · rcases hy with hy | hy
      · obtain ⟨a, ha⟩ := cells_at (L + 1) (by rw [← hk]; exact hy : fd.scope.names.lookup y = some .cell)
        rw [hcells, ← hcs] at ha
        obtain ⟨rfl, rfl⟩ := hone y a ha
        refine ⟨L + 1, ha, by simp [muts], hL1, by rw [hlo]; exact Nat.succ_ne_self L, vo, ⟨wo, n0.1, hwo⟩, fun v hv => ?_⟩
        have := (hρ _ v hv).1
        rw [ofs_inj] at this
        exact absurd this (by decide)
      · rw [hk] at hy
        have := List.all_eq_true.mp l2 _ (lookup_mem hy)
        cases this
  have hA : c.b.get? L = none := Heap.get?_none_of_le F.above
  have hA1 : c.b.get? (L + 1) = none := n0.2.2
  have En : EnvOk c 8 (callerA.deeper env) env := by
    refine ⟨by rw [hsc]; exact l1, by rw [← henv]; rfl, by rw [← henv]; rfl, rfl, by show (1 + 300) + 1 + 5 * 8 + 5 ≤ 500; omega, by show 4 + 3 + 200 * 8 + 400 ≤ 4000; omega, ⟨by rw [hlo]; exact hA, fun x cl e => by rw [(hone x cl e).2]; exact hA1⟩, fun _ => ?_⟩
    exact ⟨216, 214, by rw [← henv]; rfl, by simp [tabs], hc2, by rw [← henv]; exact l5⟩
  obtain ⟨ρ', σ', ev⟩ := law_ok w.params (ns.map V.int) (ns.take 12) map_ints
  have ev : evB (callN (hd.heap_1 w.params) 8) b env.scope (binds fd.params.args [.lst (ns.map V.int)]) [] = some (.ret (.bool true), ρ', σ') := by
    rw [lawRun, hfd] at ev
    dsimp only at ev
    rw [hb] at ev
    rw [hsc]; exact ev
  refine (okB O Y (calls O Y Fs 8) b (callerA.deeper env) env _ [] [] h₁ _ ρ' σ' En ⟨R, Fm⟩ ev).use ?_
  rintro fv h₂ t₂ ⟨θ₂, I₂, K₂, v, rfl, hv⟩
  have hv : v = .bool true := hv
  subst hv
  exact hQ h₂ t₂ I₂.rep.stay fun P hP => let ⟨ps, e, _⟩ := I₂.rep.tab P hP; ⟨ps, e⟩
end Mine

end
section
open PySem PySem.W PyProof.Rows
set_option Elab.async false
set_option maxRecDepth 100000
set_option maxHeartbeats 8000000
namespace Mine
theorem X : PySem.Challenge.rw_rh0208_01.Holds := hd (by
  k_go0
  rename_i w s₀ s₁ mg mb G Y fa o pm doc ho hg X V T B TE TW hcd ns hs hlay0 hL1 hr1 hl2 x5 x4 la vs x1 hL ra wl r0 hI hr hcond1 hcond hD h₁ tk₁ wo hwo X0 X' T' K' F' cd1 N' l0
  have hNUM : ∃ t, mg "NUMBERS" = some (.int 4294967296 t) := by
    obtain ⟨v, e, r⟩ := V.val _ (.head _)
    cases r
    exact ⟨_, e⟩
  have hsys : ∃ o, (ghostOf s₁.heap [(211, 207), (216, 214)]).get? sysModules = some o := by
    obtain ⟨mm, ⟨o, _, _, e, _⟩, _⟩ := (T.seer (by decide +kernel)).mods
    exact ⟨o, ghost_ne e (by decide)⟩
  have hla : (ghostOf s₁.heap [(211, 207), (216, 214)]).get? la = some (lstO vs 0) := by
    cases wl with
    | list e _ =>
      obtain ⟨o, e1, e2, n, e3⟩ := hL
      rw [e] at e1
      cases e1
      cases e3
      exact ghost_get hT9 e (fun q => by cases q)
  have hn : ns.length ≤ 63 := by omega
  refine join (vo := _) (ns := ns) (vs := vs) (la := la) (wo := wo) (fd := _) rfl rfl X' T' hNUM hsys cd1 codeHd F' N' hwo ?_ ?_ hla hI hn ?_
  · rfl
  · rfl
  · intro h' n' keep grown
    obtain ⟨p1, e1⟩ := grown 207 (by simp [tabs])
    obtain ⟨p2, e2⟩ := grown 214 (by simp [tabs])
    refine ⟨⟨.inl ⟨.bool true, .bool true, [], rfl, fun _ => rfl, .bool true, ?_, fun _ => ⟨List.nodup_nil, fun a ha => by cases ha⟩⟩, keep, rfl, hg⟩, ⟨p1, e1⟩, ⟨p2, e2⟩, trivial⟩
    kernel_rfl)
end Mine

end
theorem PySem.Challenge.cw_rh0208_01_holds : PySem.Challenge.rw_rh0208_01.Holds := by
  exact Mine.X
