import PyProof.Rows.All
import Wide.All
import OpenK.AllK
import Wide.FinOn
import KE.KStateDown
import HandS.ForMost
import HandS.Defaults
import HandS.Head2
import HandS.HeadEnd
import HandS.HeadHook1
import HandS.HeadHook2
import PySem.Challenge.RW_wavewright_k01_whole_roots_by_polynomial
import HandS.IsInst
import HandS.Zip
import HandS.Walk
import HandS.TupAny
import HandS.TupMul
import HandS.Style
import HandS.Wide
import HandS.WideBits
import HandS.Codes
section
set_option Elab.async false
set_option linter.all false
set_option maxRecDepth 100000
set_option maxHeartbeats 0
namespace K01
open PySem PySem.Spec PyProof.Rows L2
def top (i : Nat) : Stmt := PySem.Challenge.pw_wavewright_k01_whole_roots_by_polynomial.main.body.getD i (.Pass ⟨0, 0, 0, 0⟩)
abbrev FnP (K : PySem.W.Frag) (x : Str) (st : Stmt) (f : Addr) (fd : FuncData) : Prop := FunD K x x (defArgs st) (defBody st) (defScope st) [] [] f fd
def dOf (x : Str) (st : Stmt) : He.DefD := ⟨(x, none), x, x, defArgs st, defBody st, defScope st, [], []⟩
abbrev s_is_int : Stmt := top 5
abbrev s_is_from : Stmt := top 6
abbrev s_is_row : Stmt := top 7
abbrev s_is_root_value : Stmt := top 10
abbrev s_low : Stmt := top 11
abbrev s_times_r : Stmt := top 12
abbrev s_plus : Stmt := top 13
abbrev s_minus : Stmt := top 14
abbrev s_times : Stmt := top 15
abbrev s_bar : Stmt := top 16
abbrev s_turned_by : Stmt := top 17
abbrev s_need_root : Stmt := top 19
abbrev s_need_numbers : Stmt := top 20
abbrev s_lowest_root : Stmt := top 21
abbrev s_root_plus : Stmt := top 22
abbrev s_root_times : Stmt := top 23
abbrev s_root_minus : Stmt := top 24
abbrev s_conjugate : Stmt := top 25
abbrev s_turned : Stmt := top 26
abbrev s_law_deck : Stmt := top 28
abbrev s_law_draw : Stmt := top 29
abbrev s_law_pick : Stmt := top 30
abbrev s_law_same : Stmt := top 31
abbrev s_law_int : Stmt := top 32
abbrev s_law_low : Stmt := top 33
abbrev s_law_raised : Stmt := top 34
abbrev s_law_plus : Stmt := top 35
abbrev s_law_four : Stmt := top 36
abbrev s_law_times : Stmt := top 37
abbrev s_law_minus : Stmt := top 38
abbrev s_law_conjugate : Stmt := top 39
abbrev s_law_turned : Stmt := top 40
abbrev s_law_root : Stmt := top 41
abbrev s_law_second : Stmt := top 42
abbrev s_law_is_five_right : Stmt := top 43
abbrev s_law : Stmt := top 44
def fn : List He.DefD := [dOf "is_int" s_is_int, dOf "is_from" s_is_from, dOf "is_row" s_is_row, dOf "is_root_value" s_is_root_value, dOf "low" s_low, dOf "times_r" s_times_r, dOf "plus" s_plus, dOf "minus" s_minus, dOf "times" s_times, dOf "bar" s_bar, dOf "turned_by" s_turned_by, dOf "need_root" s_need_root, dOf "need_numbers" s_need_numbers, dOf "lowest_root" s_lowest_root, dOf "root_plus" s_root_plus, dOf "root_times" s_root_times, dOf "root_minus" s_root_minus, dOf "conjugate" s_conjugate, dOf "turned" s_turned, dOf "_law_deck" s_law_deck, dOf "_law_draw" s_law_draw, dOf "_law_pick" s_law_pick, dOf "_law_same" s_law_same, dOf "_law_int" s_law_int, dOf "_law_low" s_law_low, dOf "_law_raised" s_law_raised, dOf "_law_plus" s_law_plus, dOf "_law_four" s_law_four, dOf "_law_times" s_law_times, dOf "_law_minus" s_law_minus, dOf "_law_conjugate" s_law_conjugate, dOf "_law_turned" s_law_turned, dOf "_law_root" s_law_root, dOf "_law_second" s_law_second, dOf "_law_is_five_right" s_law_is_five_right, dOf "law" s_law]
def fa : List He.Fa := [.glo "is_int", .glo "is_from", .glo "is_row", .glo "is_root_value", .glo "low", .glo "times_r", .glo "plus", .glo "minus", .glo "times", .glo "bar", .glo "turned_by", .glo "need_root", .glo "need_numbers", .glo "lowest_root", .glo "root_plus", .glo "root_times", .glo "root_minus", .glo "conjugate", .glo "turned", .glo "_law_deck", .glo "_law_draw", .glo "_law_pick", .glo "_law_same", .glo "_law_int", .glo "_law_low", .glo "_law_raised", .glo "_law_plus", .glo "_law_four", .glo "_law_times", .glo "_law_minus", .glo "_law_conjugate", .glo "_law_turned", .glo "_law_root", .glo "_law_second", .glo "_law_is_five_right", .glo "law", .free "all", .free "bool", .free "dict", .free "int", .free "isinstance", .free "len", .free "list", .free "max", .free "range", .free "repr", .free "str", .free "tuple", .free "zip", .int "EIGHT" 8]
def loose0 : List Str := ["is_int", "is_from", "is_row", "is_root_value", "low", "times_r", "plus", "minus", "times", "bar", "turned_by", "need_root", "need_numbers", "lowest_root", "root_plus", "root_times", "root_minus", "conjugate", "turned", "_law_deck", "_law_draw", "_law_pick", "_law_same", "_law_int", "_law_low", "_law_raised", "_law_plus", "_law_four", "_law_times", "_law_minus"]
def loose1 : List Str := ["_law_conjugate", "_law_turned", "_law_root", "_law_second", "_law_is_five_right", "WaveError", "BadNumber", "BadRoot", "EIGHT"]
def loose : List Str := loose0 ++ loose1
abbrev R : PySem.W.OpenRow := PySem.W.OpenLaw.row PySem.Challenge.rw_wavewright_k01_whole_roots_by_polynomial
abbrev hk : PySem.W.Hook := He.hookD 4 fa fn
def ob (s : PySem.W.SharedT) : He.AlD := He.obsDG 4 fa fn (HandSHeadRun.getT s)
theorem ob_eq (s : PySem.W.SharedT) : ob s = hk.obs s.abs := He.obsDG_eq (HandSHeadRun.getT_eq s)
theorem run (w : World) : HandSHeadRun.RunEq R (PySem.W.view R.prog [44]) hk ob 4000 loose w := by
  intro os
  kernel_rfl
/-- what the top leaves, for the defs' proofs -/
structure Env0 (K : PySem.W.Frag) (mg : Str → Option Value) : Prop where
  says : He.SaysD fa fn K
  glo : ∀ (i : Nat) (x : Str), fa[i]? = some (.glo x) → mg x = some (.ref (He.ga K x))
  free : ∀ (i : Nat) (x : Str), fa[i]? = some (.free x) → mg x = none
  int : ∀ (i : Nat) (x : Str) (z : Int), fa[i]? = some (.int x z) → ∃ t, mg x = some (.int z t)
theorem Env0.def_ {K : PySem.W.Frag} {mg : Str → Option Value} (c : Env0 K mg) (i : Nat) {x : Str} {st : Stmt} (h : fn[i]? = some (dOf x st) := by rfl) : ∃ fd, FnP K x st (He.ga K x) fd := c.says.def_ i h
end K01
open PySem PySem.W PySem.Calls PyProof.Rows
/-- the law holds, if its def keeps its promise over what the top leaves -/
theorem K01.holds_of (k : Nat) (hr : L2.Room k callerA) (hF : ∀ (w : World) (K : PySem.W.Frag) (mg : PySem.Str → Option Value) (base : Heap), K01.Env0 K mg → K.In base → base.Ns mainGlobals mg →
    ∀ fd, K01.FnP K "law" K01.s_law (He.ga K "law") fd → L2.FnOk (PySem.Challenge.rw_wavewright_k01_whole_roots_by_polynomial).prog w K mg base L2.CX0 k (He.ga K "law") fd ["script"]
      (fun vs H Q _ => ∃ (a : Addr) (ns : List Int), vs = [.ref a] ∧ L2.Only H ∧ L2.SqL K H a (ns.map L2.V.int) ∧ ns.length ≤ 63 ∧ ∀ H', Q (.bl true) H')) : PySem.Challenge.rw_wavewright_k01_whole_roots_by_polynomial.Holds := by
  w_on; o_law
  refine HandSHeadRun.head_any (r := OpenLaw.row PySem.Challenge.rw_wavewright_k01_whole_roots_by_polynomial) (q := view (OpenLaw.row PySem.Challenge.rw_wavewright_k01_whole_roots_by_polynomial).prog [44]) (H := K01.hk) (ob := K01.ob) (M := 4000) (loose := K01.loose) (d := HandSHeadRun.topDef (OpenLaw.row PySem.Challenge.rw_wavewright_k01_whole_roots_by_polynomial).prog 44) (kwd := []) K01.ob_eq
    (by kernel_rfl) (fun s => by kernel_rfl) K01.run (by kernel_rfl) (by kernel_rfl) (by kernel_rfl) (by rfl) (by first | assumption | decide +kernel) (by decide +kernel) ⟨rfl, rfl, rfl, rfl, rfl, by decide +kernel⟩ ?hw ?hc
  case hw => w_witness2
  case hc =>
    refine L2.walk_ofE (l := PySem.Challenge.rw_wavewright_k01_whole_roots_by_polynomial) (n := 63) (k := k) (x := "script") (CX := L2.CX0) rfl (by decide) (by kernel_rfl) hr ?F (fun _ _ _ _ z => z)
    intro w mg fa h Y G hmg0
    obtain ⟨K, KX, c⟩ := Y
    have hmg : mg ("law" : PySem.Str) = some (.ref fa) := by
      have e : (HandSHeadRun.topDef (OpenLaw.row PySem.Challenge.rw_wavewright_k01_whole_roots_by_polynomial).prog 44).name = ("law" : PySem.Str) := by kernel_rfl
      rw [← e]
      exact hmg0
    have E : K01.Env0 K mg := ⟨c, fun i x h => He.glo_ok KX G (c.fact i h), fun i x h => He.free_ok KX G (c.fact i h), fun i x z h => He.int_ok KX G (c.fact i h)⟩
    obtain ⟨fd, F⟩ := E.def_ 35 (x := "law") (st := K01.s_law)
    have e : fa = He.ga K "law" := by
      have z := hmg.symm.trans (E.glo 35 "law" rfl)
      injection z with z
      injection z
    subst e
    have b := L2.FunD.bindsA (ps := ["script"]) F fun _ _ _ _ _ _ us hl => match us, hl with | [_], _ => rfl
    exact ⟨K, fd, _, KX, fun s v => b s [v] rfl, fun H a ns hl hO hS => ⟨a, ns, rfl, hO, hS, hl, fun _ => rfl⟩, fun base X Gb => hF w K mg base E X Gb fd F⟩
end
section
set_option Elab.async false
set_option linter.all false
set_option maxRecDepth 100000
set_option maxHeartbeats 4000000
/-! MI1: a small interpreter of one's own: values, stores, an inner form of the text, its running. No heap of the model in sight. -/
namespace MI
open PySem PySem.Spec PyProof.Rows L2

/-! ### values -/
inductive PV where
  | non | bl (b : Bool) | int (i : Int) | str (s : Str) | ty (n : String) | tup (xs : List PV) | frz (xs : List PV) | ref (n : Nat)
inductive Cell where
  | lst (xs : List PV) | dct (kvs : List (Key × PV))
abbrev Store := List Cell
abbrev Env := List (Option PV)
/-- a value, or a list that was just made and that nobody else knows -/
inductive RV where
  | val (v : PV) | new (xs : List PV)

/-! ### the inner form -/
inductive Lit where
  | non | bl (b : Bool) | int (i : Int) | str (s : Str)
inductive Bi where
  | len | isinst | all | any | max2 | min2 | int1 | tuple1 | list1 | range | zip | enum | abs
inductive Tg where
  | name (i : Nat) | tup (is : List Nat)
/-- what a for or a comprehension walks: a list or tuple, range, zip, enumerate of these arguments -/
inductive Ik where
  | seq | rng | zip | enum
inductive IE where
  | never
  | var (i : Nat)
  | lit (l : Lit)
  | ty (n : String)
  | glob (z : Int)
  | bin (op : Operator) (a b : IE)
  | neg (a : IE)
  | not (a : IE)
  | and (es : List IE)
  | or (es : List IE)
  | cmp (op : CmpOp) (a b : IE)
  | chain (op1 op2 : CmpOp) (a b c : IE)
  | ife (t a b : IE)
  | tup (es : List IE)
  | lst (es : List IE)
  | dct (ks : List Str) (vs : List IE)
  | idx (a b : IE)
  | slice (a : IE) (lo hi : Option IE)
  | rev (a : IE)
  | call (f : Nat) (args : List IE)
  | callK (f : Nat) (args kws : List IE) (perm : List Nat)
  | bi (b : Bi) (args : List IE)
  | comp (elt : IE) (tg : Tg) (ik : Ik) (it : List IE) (ifs : List IE) (own : List Nat)
  | pop (o : IE)
  | append (o e : IE)
  | tnot (a : IE)
  | tand (es : List IE)
  | tor (es : List IE)
  | tval (e : IE)
inductive IS where
  | never
  | asg (i : Nat) (e : IE)
  | asgT (is : List Nat) (e : IE)
  | par (is : List Nat) (es : List IE)
  | put (d : IE) (k : Str) (e : IE)
  | ifs (t : IE) (a b : List IS)
  | whl (t : IE) (b : List IS)
  | forS (tg : Tg) (ik : Ik) (it : List IE) (b : List IS)
  | ret (e : IE)
  | retN
  | expr (e : IE)
  | pass | brk | cont
structure Fn where
  np : Nat
  ns : Nat
  body : List IS

/-! ### running -/
inductive Out where
  | next (env : Env) | ret (v : PV) | brk (env : Env) | cont (env : Env)
structure Rec where
  V : Nat → IE → Env → Store → Option (RV × Store)
  T : Nat → IE → Env → Store → Option (Bool × Store)
  S : Nat → IS → Env → Store → Option (Out × Store)
  C : Nat → Nat → List PV → Store → Option (PV × Store)
def lim : Nat := 100000
def allocR (r : RV × Store) : PV × Store := match r with
  | (.val v, st) => (v, st)
  | (.new xs, st) => (.ref st.length, st ++ [.lst xs])
def evE (f : IE → Store → Option (RV × Store)) (e : IE) (st : Store) : Option (PV × Store) := (f e st).map allocR
/-- several, from the left -/
def evL {α : Type} (f : IE → Store → Option (α × Store)) : List IE → Store → Option (List α × Store)
  | [], st => some ([], st)
  | e :: es, st => (f e st).bind fun (v, st1) => (evL f es st1).bind fun (vs, st2) => some (v :: vs, st2)
def litV : Lit → PV
  | .non => .non
  | .bl b => .bl b
  | .int i => .int i
  | .str s => .str s
/-- the items of a list or tuple, as they stand: is it a list -/
def itemsOf (st : Store) : RV → Option (Bool × List PV)
  | .new xs => some (true, xs)
  | .val (.tup xs) => some (false, xs)
  | .val (.frz xs) => some (true, xs)
  | .val (.ref n) => match st[n]? with
    | some (.lst xs) => some (true, xs)
    | _ => none
  | _ => none
def mulOk (i j : Int) : Bool := decide (i.natAbs.log2 + j.natAbs.log2 < 1000000)
def divOk (j : Int) : Bool := decide (0 < j) && decide (j.natAbs.log2 < 9000)
def powOk (i j : Int) : Bool := decide (0 ≤ j) && (decide (j ≤ 1000000) && decide (i.natAbs < 2 ^ 64))
def shlOk (i j : Int) : Bool := decide (0 ≤ j) && decide ((Builtin.Int.intBits i : Int) + j ≤ 134217728)
def binI (op : Operator) (i j : Int) : Option Int := match op with
  | .Add => some (i + j)
  | .Sub => some (i - j)
  | .Mult => bif mulOk i j then some (i * j) else none
  | .FloorDiv => bif divOk j then some (i / j) else none
  | .Mod => bif decide (0 < j) then some (i % j) else none
  | .Pow => bif powOk i j then some (i ^ j.toNat) else none
  | .LShift => bif shlOk i j then some (i * 2 ^ j.toNat) else none
  | _ => none
/-- the items of a list that may change: a new one, a told one -/
def mutItems (st : Store) : RV → Option (List PV)
  | .new xs => some xs
  | .val (.ref n) => match st[n]? with
    | some (.lst xs) => some xs
    | _ => none
  | _ => none
def repOk (xs : List PV) (k : Int) : Bool := decide (2 ≤ k) && (decide (k ≤ 1000) && (decide (xs.length ≤ 1000) && !xs.isEmpty))
def binop (op : Operator) (x y : RV) (st : Store) : Option RV := match x, y with
  | .val (.int i), .val (.int j) => (binI op i j).map fun z => .val (.int z)
  | .val (.tup xs), .val (.tup ys) => match op with
    | .Add => bif decide (xs.length + ys.length ≤ lim) then some (.val (.tup (xs ++ ys))) else none
    | _ => none
  | .val (.tup xs), .val (.int k) => match op with
    | .Mult => bif repOk xs k then some (.val (.tup (List.replicate k.toNat xs).flatten)) else none
    | _ => none
  | x, y => match op with
    | .Add => (mutItems st x).bind fun xs => (mutItems st y).bind fun ys => bif decide (xs.length + ys.length ≤ lim) then some (.new (xs ++ ys)) else none
    | _ => none
def cmpI (op : CmpOp) (i j : Int) : Option Bool := match op with
  | .Lt => some (decide (i < j))
  | .LtE => some (decide (i ≤ j))
  | .Gt => some (decide (j < i))
  | .GtE => some (decide (j ≤ i))
  | .Eq => some (decide (i = j))
  | .NotEq => some (!decide (i = j))
  | _ => none
def isIntP : PV → Bool
  | .int _ => true
  | _ => false
/-- a value is None, a True, a False -/
def isV (x : RV) (y : PV) : Option Bool := match x, y with
  | .val .non, .non => some true
  | .val (.bl _), .non => some false
  | .val (.int _), .non => some false
  | .val (.str _), .non => some false
  | .val (.tup _), .non => some false
  | .val (.frz _), .non => some false
  | .val (.ref _), .non => some false
  | .val (.bl a), .bl b => some (a == b)
  | _, _ => none
def cmpNil (op : CmpOp) (o : Option (Bool × List PV)) : Option Bool := match o with
  | some (true, xs) => match op with
    | .Eq => bif xs.all isIntP then some xs.isEmpty else none
    | .NotEq => bif xs.all isIntP then some (!xs.isEmpty) else none
    | _ => none
  | _ => none
def cmpIs (op : CmpOp) (o : Option Bool) : Option Bool := match op with
  | .Is => o
  | .IsNot => o.map (!·)
  | _ => none
def cmpS (op : CmpOp) (i j : Str) : Option Bool := match op with
  | .Eq => some (decide (i = j))
  | .NotEq => some (!decide (i = j))
  | _ => none
def cmpop (op : CmpOp) (x y : RV) (st : Store) : Option Bool := match x, y with
  | .val (.int i), .val (.int j) => cmpI op i j
  | .val (.str i), .val (.str j) => cmpS op i j
  | x, .new [] => cmpNil op (itemsOf st x)
  | x, .val y => cmpIs op (isV x y)
  | _, _ => none
def truth (st : Store) (x : RV) : Option Bool := match x with
  | .val (.bl b) => some b
  | .val .non => some false
  | .val (.int i) => some (i != 0)
  | .val (.str s) => bif decide (s.length ≤ lim) then some ((s.length : Int) != 0) else none
  | x => (itemsOf st x).map fun p => !p.2.isEmpty
def dctGet (kvs : List (Key × PV)) (k : Key) : Option PV := (kvs.find? fun kv => decide (kv.1 = k)).map (·.2)
def dctPut (kvs : List (Key × PV)) (k : Key) (v : PV) : List (Key × PV) := if kvs.any (fun kv => decide (kv.1 = k)) then kvs.map (fun kv => if kv.1 = k then (kv.1, v) else kv) else kvs ++ [(k, v)]
def getIx (x y : RV) (st : Store) : Option PV := match x, y with
  | .val (.ref n), .val (.str s) => match st[n]? with
    | some (.dct kvs) => dctGet kvs (.inr s)
    | _ => none
  | x, .val (.int i) => (itemsOf st x).bind fun p => atI p.2 i
  | _, _ => none
def cutP (xs : List PV) (lo hi : Option Int) : List PV := (xs.drop (HT.sIx xs.length 0 lo)).take (HT.sIx xs.length xs.length hi - HT.sIx xs.length 0 lo)
def getSl (x : RV) (lo hi : Option Int) (st : Store) : Option RV := (itemsOf st x).map fun p => bif p.1 then .new (cutP p.2 lo hi) else .val (.tup (cutP p.2 lo hi))
/-- the type that a value bears -/
def typeName (st : Store) : RV → Option String
  | .new _ => some "list"
  | .val .non => some "NoneType"
  | .val (.bl _) => some "bool"
  | .val (.int _) => some "int"
  | .val (.str _) => some "str"
  | .val (.tup _) => some "tuple"
  | .val (.frz _) => some "list"
  | .val (.ref n) => match st[n]? with
    | some (.lst _) => some "list"
    | some (.dct _) => some "dict"
    | _ => none
  | _ => none
/-- is a value of the type T1 an instance of T2, of the plain ones -/
def subTy (a b : String) : Option Bool := match b with
  | "int" => some (a == "int" || a == "bool")
  | "bool" => some (a == "bool")
  | "str" => some (a == "str")
  | "tuple" => some (a == "tuple")
  | "list" => some (a == "list")
  | "dict" => some (a == "dict")
  | _ => none
def bools : List PV → Option (List Bool)
  | [] => some []
  | .bl b :: r => (bools r).map (b :: ·)
  | _ :: _ => none
def biCall (b : Bi) (xs : List RV) (st : Store) : Option RV := match b, xs with
  | .len, [x] => (itemsOf st x).map fun p => .val (.int p.2.length)
  | .isinst, [x, .val (.ty n)] => (typeName st x).bind fun a => (subTy a n).map fun r => .val (.bl r)
  | .all, [.new xs] => (bools xs).map fun bs => .val (.bl (bs.all id))
  | .any, [.new xs] => (bools xs).map fun bs => .val (.bl (bs.any id))
  | .max2, [.val (.int i), .val (.int j)] => some (.val (.int (bif decide (j > i) then j else i)))
  | .min2, [.val (.int i), .val (.int j)] => some (.val (.int (bif decide (j < i) then j else i)))
  | .int1, [.val (.int i)] => some (.val (.int i))
  | .abs, [.val (.int i)] => some (.val (.int (bif decide (i < 0) then -i else i)))
  | .tuple1, [x] => (itemsOf st x).map fun p => .val (.tup p.2)
  | .list1, [x] => (itemsOf st x).map fun p => .new p.2
  | _, _ => none
/-- what is walked: items that stand still, or a list of the store as it is at each turn -/
inductive Src where
  | items (xs : List PV) | cell (n : Nat)
def Src.at (st : Store) (i : Nat) : Src → Option (Option PV)
  | .items xs => some xs[i]?
  | .cell n => match st[n]? with
    | some (.lst xs) => some xs[i]?
    | _ => none
def srcOf (r : RV) (st : Store) : Option Src := match r with
  | .new xs => some (.items xs)
  | .val (.tup xs) => some (.items xs)
  | .val (.frz xs) => some (.items xs)
  | .val (.ref n) => match st[n]? with
    | some (.lst _) => some (.cell n)
    | _ => none
  | _ => none
def tupOnly : RV → Option (Bool × List PV)
  | .val (.tup xs) => some (false, xs)
  | .new xs => some (true, xs)
  | _ => none
def ikSrc (b : Ik) (xs : List RV) (st : Store) : Option Src := match b, xs with
  | .seq, [x] => srcOf x st
  | .rng, [.val (.int n)] => bif decide (n < 2 ^ 62) && decide (-(2 ^ 62) ≤ n) then some (.items ((List.range n.toNat).map fun (i : Nat) => .int (i : Int))) else none
  | .rng, [.val (.int a), .val (.int b)] => bif (decide (a < 2 ^ 62) && decide (-(2 ^ 62) ≤ a)) && (decide (b < 2 ^ 62) && decide (-(2 ^ 62) ≤ b)) then some (.items ((List.range (b - a).toNat).map fun (i : Nat) => .int (a + (i : Int)))) else none
  | .zip, [x, y] => (tupOnly x).bind fun p => (tupOnly y).bind fun q => bif p.1 == q.1 then some (.items ((p.2.zip q.2).map fun z => .tup [z.1, z.2])) else none
  | .enum, [x] => (tupOnly x).bind fun p => bif p.1 then some (.items ((p.2.zipIdx).map fun z => .tup [.int z.2, z.1])) else none
  | _, _ => none
def setT (env : Env) : List Nat → List PV → Option Env
  | [], [] => some env
  | i :: is, v :: vs => setT (env.set i (some v)) is vs
  | _, _ => none
def setTg (env : Env) (tg : Tg) (v : PV) : Option Env := match tg with
  | .name i => some (env.set i (some v))
  | .tup is => match v with
    | .tup vs => setT env is vs
    | _ => none
def wipeE (env : Env) : List Nat → Env
  | [] => env
  | v :: vs => (wipeE env vs).set v none
/-- statements, one behind another -/
def runSs (f : IS → Env → Store → Option (Out × Store)) : List IS → Env → Store → Option (Out × Store)
  | [], env, st => some (.next env, st)
  | s :: ss, env, st => (f s env st).bind fun (o, st1) => match o with
    | .next env1 => runSs f ss env1 st1
    | o => some (o, st1)
/-- all tests hold, from the left -/
def runIfs (f : IE → Store → Option (Bool × Store)) : List IE → Store → Option (Bool × Store)
  | [], st => some (true, st)
  | t :: ts, st => (f t st).bind fun (b, st1) => bif b then runIfs f ts st1 else some (false, st1)
def loopC (V : IE → Env → Store → Option (RV × Store)) (T : IE → Env → Store → Option (Bool × Store)) (elt : IE) (tg : Tg) (ifs : List IE) (own : List Nat) (env : Env) (src : Src) : Nat → Nat → List PV → Store → Option (List PV × Store)
  | 0, _, _, _ => none
  | m + 1, i, acc, st => (src.at st i).bind fun o => match o with
    | none => some (acc, st)
    | some x => (setTg (wipeE env own) tg x).bind fun env1 => (runIfs (fun t s => T t env1 s) ifs st).bind fun (b, st1) => match b with
      | true => (evE (fun e s => V e env1 s) elt st1).bind fun (v, st2) => bif decide (acc.length < lim) then loopC V T elt tg ifs own env src m (i + 1) (acc ++ [v]) st2 else none
      | false => loopC V T elt tg ifs own env src m (i + 1) acc st1
def loopF (S : IS → Env → Store → Option (Out × Store)) (tg : Tg) (b : List IS) (src : Src) : Nat → Nat → Env → Store → Option (Out × Store)
  | 0, _, _, _ => none
  | m + 1, i, env, st => (src.at st i).bind fun o => match o with
    | none => some (.next env, st)
    | some x => (setTg env tg x).bind fun env1 => (runSs S b env1 st).bind fun (o, st1) => match o with
      | .next env2 => loopF S tg b src m (i + 1) env2 st1
      | .cont env2 => loopF S tg b src m (i + 1) env2 st1
      | .brk env2 => some (.next env2, st1)
      | .ret v => some (.ret v, st1)
def loopW (T : IE → Env → Store → Option (Bool × Store)) (S : IS → Env → Store → Option (Out × Store)) (t : IE) (b : List IS) : Nat → Env → Store → Option (Out × Store)
  | 0, _, _ => none
  | m + 1, env, st => (T t env st).bind fun (c, st1) => match c with
    | false => some (.next env, st1)
    | true => (runSs S b env st1).bind fun (o, st2) => match o with
      | .next env2 => loopW T S t b m env2 st2
      | .cont env2 => loopW T S t b m env2 st2
      | .brk env2 => some (.next env2, st2)
      | .ret v => some (.ret v, st2)
/-- what a for or a comprehension walks -/
def iterOf (V : IE → Store → Option (RV × Store)) (ik : Ik) (it : List IE) (st : Store) : Option (Src × Store) :=
  (evL V it st).bind fun (xs, st1) => (ikSrc ik xs st1).map fun s => (s, st1)
def optI (V : IE → Store → Option (RV × Store)) : Option IE → Store → Option (Option Int × Store)
  | none, st => some (none, st)
  | some e, st => (V e st).bind fun (r, st1) => match r with
    | .val (.int i) => some (some i, st1)
    | _ => none
def andL (V : IE → Store → Option (RV × Store)) : List IE → Store → Option (RV × Store)
  | [], _ => none
  | [e], st => V e st
  | e :: es, st => (V e st).bind fun (r, st1) => match r with
    | .val (.bl true) => andL V es st1
    | .val (.bl false) => some (.val (.bl false), st1)
    | _ => none
def orL (V : IE → Store → Option (RV × Store)) : List IE → Store → Option (RV × Store)
  | [], _ => none
  | [e], st => V e st
  | e :: es, st => (V e st).bind fun (r, st1) => match r with
    | .val (.bl true) => some (.val (.bl true), st1)
    | .val (.bl false) => orL V es st1
    | _ => none
def andT (T : IE → Store → Option (Bool × Store)) : List IE → Store → Option (Bool × Store)
  | [], _ => none
  | [e], st => T e st
  | e :: es, st => (T e st).bind fun (b, st1) => match b with
    | true => andT T es st1
    | false => some (false, st1)
def orT (T : IE → Store → Option (Bool × Store)) : List IE → Store → Option (Bool × Store)
  | [], _ => none
  | [e], st => T e st
  | e :: es, st => (T e st).bind fun (b, st1) => match b with
    | true => some (true, st1)
    | false => orT T es st1
def permute (vs : List PV) : List Nat → Option (List PV)
  | [] => some []
  | i :: is => vs[i]?.bind fun v => (permute vs is).map (v :: ·)

def stepV (n : Nat) (R : Rec) (d : Nat) (e : IE) (env : Env) (st : Store) : Option (RV × Store) := match e with
  | .never => none
  | .var i => match env[i]? with
    | some (some v) => some (.val v, st)
    | _ => none
  | .lit l => some (.val (litV l), st)
  | .ty n => some (.val (.ty n), st)
  | .glob z => some (.val (.int z), st)
  | .bin op a b => (R.V d a env st).bind fun (x, st1) => (R.V d b env st1).bind fun (y, st2) => (binop op x y st2).map fun r => (r, st2)
  | .neg a => (R.V d a env st).bind fun (x, st1) => match x with
    | .val (.int i) => some (.val (.int (-i)), st1)
    | _ => none
  | .not a => (R.V d a env st).bind fun (x, st1) => match x with
    | .val (.bl b) => some (.val (.bl (!b)), st1)
    | _ => none
  | .and es => andL (fun e s => R.V d e env s) es st
  | .or es => orL (fun e s => R.V d e env s) es st
  | .cmp op a b => (R.V d a env st).bind fun (x, st1) => (R.V d b env st1).bind fun (y, st2) => (cmpop op x y st2).map fun r => (.val (.bl r), st2)
  | .chain o1 o2 a b c => (R.V d a env st).bind fun (x, st1) => (R.V d b env st1).bind fun (y, st2) => (cmpop o1 x y st2).bind fun r => match r with
    | true => (R.V d c env st2).bind fun (z, st3) => (cmpop o2 y z st3).map fun r => (.val (.bl r), st3)
    | false => some (.val (.bl false), st2)
  | .ife t a b => (R.T d t env st).bind fun (c, st1) => match c with
    | true => R.V d a env st1
    | false => R.V d b env st1
  | .tup es => (evL (evE fun e s => R.V d e env s) es st).bind fun (vs, st1) => bif decide (vs.length ≤ lim) then some (.val (.tup vs), st1) else none
  | .lst es => (evL (evE fun e s => R.V d e env s) es st).bind fun (vs, st1) => bif decide (vs.length ≤ lim) then some (.new vs, st1) else none
  | .dct ks es => (evL (evE fun e s => R.V d e env s) es st).map fun (vs, st1) => (.val (.ref st1.length), st1 ++ [.dct ((ks.zip vs).foldl (fun acc kv => dctPut acc (.inr kv.1) kv.2) [])])
  | .idx a b => (R.V d a env st).bind fun (x, st1) => (R.V d b env st1).bind fun (y, st2) => (getIx x y st2).map fun r => (.val r, st2)
  | .slice a lo hi => (R.V d a env st).bind fun (x, st1) => (optI (fun e s => R.V d e env s) lo st1).bind fun (l, st2) => (optI (fun e s => R.V d e env s) hi st2).bind fun (h, st3) => (getSl x l h st3).map fun r => (r, st3)
  | .rev a => (R.V d a env st).bind fun (x, st1) => (itemsOf st1 x).bind fun p => bif p.1 then some (.new p.2.reverse, st1) else none
  | .call f args => (evL (evE fun e s => R.V d e env s) args st).bind fun (vs, st1) => (R.C d f vs st1).map fun (v, st2) => (.val v, st2)
  | .callK f args kws perm => (evL (evE fun e s => R.V d e env s) args st).bind fun (vs, st1) => (evL (evE fun e s => R.V d e env s) kws st1).bind fun (ws, st2) => (permute (vs ++ ws) perm).bind fun us => (R.C d f us st2).map fun (v, st3) => (.val v, st3)
  | .bi b args => (evL (fun e s => R.V d e env s) args st).bind fun (xs, st1) => (biCall b xs st1).map fun r => (r, st1)
  | .comp elt tg ik it ifs own => (iterOf (fun e s => R.V d e env s) ik it st).bind fun (src, st1) => (loopC (R.V d) (R.T d) elt tg ifs own env src n 0 [] st1).map fun (xs, st2) => (.new xs, st2)
  | .pop o => (R.V d o env st).bind fun (x, st1) => match x with
    | .val (.ref m) => match st1[m]? with
      | some (.lst xs) => xs[xs.length - 1]?.map fun v => (.val v, st1.set m (.lst xs.dropLast))
      | _ => none
    | _ => none
  | .append o e => (R.V d o env st).bind fun (x, st1) => (evE (fun e s => R.V d e env s) e st1).bind fun (v, st2) => match x with
    | .val (.ref m) => match st1[m]?, st2[m]? with
      | some (.lst _), some (.lst xs) => bif decide (xs.length < lim) then some (.val .non, st2.set m (.lst (xs ++ [v]))) else none
      | _, _ => none
    | _ => none
  | _ => none
def stepT (n : Nat) (R : Rec) (d : Nat) (e : IE) (env : Env) (st : Store) : Option (Bool × Store) := match e with
  | .tnot a => (R.T d a env st).map fun (b, st1) => (!b, st1)
  | .tand es => andT (fun e s => R.T d e env s) es st
  | .tor es => orT (fun e s => R.T d e env s) es st
  | .tval e => (R.V d e env st).bind fun (x, st1) => (truth st1 x).map fun b => (b, st1)
  | _ => none
def stepS (n : Nat) (R : Rec) (d : Nat) (s : IS) (env : Env) (st : Store) : Option (Out × Store) := match s with
  | .never => none
  | .asg i e => (evE (fun e s => R.V d e env s) e st).map fun (v, st1) => (.next (env.set i (some v)), st1)
  | .asgT is e => (R.V d e env st).bind fun (v, st1) => match v with
    | .val (.tup vs) => (setT env is vs).map fun env1 => (.next env1, st1)
    | _ => none
  | .par is es => (evL (evE fun e s => R.V d e env s) es st).bind fun (vs, st1) => (setT env is vs).map fun env1 => (.next env1, st1)
  | .put o k e => (evE (fun e s => R.V d e env s) e st).bind fun (v, st1) => (R.V d o env st1).bind fun (x, st2) => match x with
    | .val (.ref m) => match st2[m]? with
      | some (.dct kvs) => bif decide (kvs.length < lim) then some (.next env, st2.set m (.dct (dctPut kvs (.inr k) v))) else none
      | _ => none
    | _ => none
  | .ifs t a b => (R.T d t env st).bind fun (c, st1) => match c with
    | true => runSs (R.S d) a env st1
    | false => runSs (R.S d) b env st1
  | .whl t b => loopW (R.T d) (R.S d) t b n env st
  | .forS tg ik it b => (iterOf (fun e s => R.V d e env s) ik it st).bind fun (src, st1) => loopF (R.S d) tg b src n 0 env st1
  | .ret e => (evE (fun e s => R.V d e env s) e st).map fun (v, st1) => (.ret v, st1)
  | .retN => some (.ret .non, st)
  | .expr e => (R.V d e env st).map fun (_, st1) => (.next env, st1)
  | .pass => some (.next env, st)
  | .brk => some (.brk env, st)
  | .cont => some (.cont env, st)
def envOf (fn : Fn) (vs : List PV) : Env := vs.map some ++ List.replicate (fn.ns - fn.np) none
def stepC (G : List Fn) (R : Rec) (d f : Nat) (vs : List PV) (st : Store) : Option (PV × Store) := match d with
  | 0 => none
  | d + 1 => match G[f]? with
    | none => none
    | some fn => bif decide (vs.length = fn.np) then (runSs (R.S d) fn.body (envOf fn vs) st).bind fun (o, st1) => match o with
      | .ret v => some (v, st1)
      | .next _ => some (.non, st1)
      | _ => none
    else none
def stepR (G : List Fn) (n : Nat) (R : Rec) : Rec := ⟨stepV n R, stepT n R, stepS n R, stepC G R⟩
def run (G : List Fn) : Nat → Rec
  | 0 => ⟨fun _ _ _ _ => none, fun _ _ _ _ => none, fun _ _ _ _ => none, fun _ _ _ _ => none⟩
  | n + 1 => stepR G n (run G n)

/-! ### from the text to the inner form -/
structure Cc where
  N : List Str
  sc : Scope
  F : List (Str × List Str)
  csts : List (Str × Int)
  tys : List (Str × String)
  bis : List (Str × Bi)
  KF : List (Nat × List Str × List Nat)
def visB (sc : Scope) (x : Str) : Bool := match sc.names.lookup x with
  | some .local => true
  | some .cell => true
  | some .free => true
  | _ => false
def locB (sc : Scope) (x : Str) : Bool := match sc.names.lookup x with
  | some .local => true
  | some .cell => true
  | _ => false
def onlyLocB (sc : Scope) (x : Str) : Bool := match sc.names.lookup x with
  | some .local => true
  | _ => false
def gloB (sc : Scope) (x : Str) : Bool := match sc.names.lookup x with
  | some .globalImplicit => true
  | _ => false
def slotOf (N : List Str) (x : Str) : Option Nat := N.findIdx? fun y => decide (y = x)
def notStar : Expr → Bool
  | .Starred _ _ => false
  | _ => true
def notSet : Expr → Bool
  | .Set _ _ _ => false
  | _ => true
def notComp : Expr → Bool
  | .ListComp _ _ _ _ => false
  | .SetComp _ _ _ _ => false
  | .DictComp _ _ _ _ _ => false
  | _ => true
def notSlice : Expr → Bool
  | .Slice _ _ _ _ => false
  | _ => true
def notTuple : Expr → Bool
  | .Tuple _ _ _ => false
  | _ => true
def isName : Expr → Bool
  | .Name _ _ => true
  | _ => false
/-- a plain base of a method call -/
def plainBase : Expr → Bool
  | .Name _ _ => true
  | .Subscript _ _ _ => true
  | _ => false
def strKey : Option Expr → Option Str
  | some (.Constant (.str s) _ _) => some s
  | _ => none
def allSome {α : Type} : List (Option α) → Option (List α)
  | [] => some []
  | some a :: r => (allSome r).map (a :: ·)
  | none :: _ => none
def tgOf (c : Cc) : Expr → Option Tg
  | .Name x _ => bif locB c.sc x then (slotOf c.N x).map .name else none
  | .Tuple es _ _ => (allSome (es.map fun e => match e with
    | .Name x _ => bif locB c.sc x then slotOf c.N x else none
    | _ => none)).map .tup
  | _ => none
/-- the same in a comprehension's block -/
def tgOfC (N : List Str) (scope : Scope) : Expr → Option Tg
  | .Name x _ => bif locB scope x then (slotOf N x).map .name else none
  | .Tuple es _ _ => (allSome (es.map fun e => match e with
    | .Name x _ => bif locB scope x then slotOf N x else none
    | _ => none)).map .tup
  | _ => none
def tgIn (own : List Nat) : Tg → Bool
  | .name i => own.contains i
  | .tup is => is.all fun i => own.contains i
/-- zip and enumerate give out pairs: the target is a row of names -/
def tgFits (tg : Expr) (ik : Ik) : Bool := match ik with
  | .zip => !notTuple tg
  | .enum => !notTuple tg
  | _ => true
def ikOf (c : Cc) (it : Expr) : Ik := match it with
  | .Call (.Name f _) args [] _ => bif gloB c.sc f && (args.all notStar && decide (0 < args.length)) then (match c.bis.lookup f with
      | some .range => .rng
      | some .zip => .zip
      | some .enum => .enum
      | _ => .seq)
    else .seq
  | _ => .seq
def itArgs (ik : Ik) (it : Expr) : List Expr := match ik with
  | .seq => [it]
  | _ => match it with
    | .Call _ args _ _ => args
    | _ => []
/-- the slots of a comprehension's own names -/
def ownOf (N : List Str) (scope : Scope) : List (Str × Nat) := (scope.names.filterMap fun y => match y.2 with
  | .local => (slotOf N y.1).map fun i => (y.1, i)
  | .cell => (slotOf N y.1).map fun i => (y.1, i)
  | _ => none)
def kwNames (kws : List Keyword) : Option (List Str) := allSome (kws.map fun k => match k with
  | ⟨n, _, _⟩ => n)
def kwExprs (kws : List Keyword) : List Expr := kws.map fun k => match k with
  | ⟨_, e, _⟩ => e
/-- where each parameter's value stands among the positional ones and the keywords' -/
def permOf (ps : List Str) (np : Nat) (ks : List Str) : Option (List Nat) := allSome ((ps.zipIdx).map fun p => if p.2 < np then some p.2 else (slotOf ks p.1).map (np + ·))
/-- a test: not, and, or by truth; anything else by its value -/
def testE : Nat → (Expr → IE) → Expr → IE
  | 0, _, _ => .never
  | j + 1, cE, e => match e with
    | .UnaryOp .Not a _ => .tnot (testE j cE a)
    | .BoolOp .And es _ => .tand (es.map (testE j cE))
    | .BoolOp .Or es _ => .tor (es.map (testE j cE))
    | .IfExp _ _ _ _ => .never
    | e => .tval (cE e)
def tj : Nat := 30
def subE (a : IE) (cE : Expr → IE) (b : Expr) : IE := match b with
  | .Slice none none (some (.UnaryOp .USub (.Constant (.int 1) _ _) _)) _ => .rev a
  | .Slice lo hi none _ => .slice a (lo.map cE) (hi.map cE)
  | b => bif notSlice b && notTuple b then .idx a (cE b) else .never
def callE (c : Cc) (cE : Expr → IE) (f : Str) (args : List Expr) (kws : List Keyword) : IE :=
  bif gloB c.sc f && args.all notStar then (match c.F.findIdx? fun p => decide (p.1 = f) with
    | some j => (match kws with
      | [] => bif decide (0 < args.length) then .call j (args.map cE) else .never
      | _ => (match kwNames kws, c.F[j]? with
        | some ks, some (_, ps) => (match permOf ps args.length ks with
          | some pm => bif decide (args.length + ks.length = ps.length) && c.KF.any (fun e => decide (e = (j, ks, pm))) then .callK j (args.map cE) ((kwExprs kws).map cE) pm else .never
          | none => .never)
        | _, _ => .never))
    | none => (match kws, c.bis.lookup f with
      | [], some b => bif decide (0 < args.length) then .bi b (args.map cE) else .never
      | _, _ => .never))
  else .never
def methE (cE : Expr → IE) (o : Expr) (m : Str) (apos : Pos) (args : List Expr) (kws : List Keyword) (cpos : Pos) : IE :=
  bif (plainBase o && (args.all notStar && decide (apos.endLine = cpos.line))) && kws.isEmpty then
    (if m = ("append" : Str) then (match args with
      | [a] => .append (cE o) (cE a)
      | _ => .never)
    else if m = ("pop" : Str) then (match args with
      | [] => .pop (cE o)
      | _ => .never)
    else .never)
  else .never
def lcE (c : Cc) (cE : Cc → Expr → IE) (elt : Expr) (gs : List Comprehension) (scope : Scope) : IE := match gs with
  | [⟨tg, it, ifs, 0⟩] => (match tgOfC c.N scope tg with
    | some g => bif notSet it && (blkC c.N c.sc scope (ownOf c.N scope) && (decide (ifs.length ≤ 1) && (tgIn ((ownOf c.N scope).map (·.2)) g && tgFits tg (ikOf c it)))) then
        .comp (cE { c with sc := relS scope c.sc } elt) g (ikOf c it) ((itArgs (ikOf c it) it).map (cE c)) (ifs.map (testE tj (cE { c with sc := relS scope c.sc }))) ((ownOf c.N scope).map (·.2))
      else .never
    | none => .never)
  | _ => .never
def compE : Nat → Cc → Expr → IE
  | 0, _, _ => .never
  | k + 1, c, e => match e with
    | .Name x _ => bif visB c.sc x then (match slotOf c.N x with
        | some i => .var i
        | none => .never)
      else bif gloB c.sc x then (match c.tys.lookup x with
        | some n => .ty n
        | none => match c.csts.lookup x with
          | some z => .glob z
          | none => .never)
      else .never
    | .Constant (.int i) _ _ => .lit (.int i)
    | .Constant (.bool b) _ _ => .lit (.bl b)
    | .Constant .none _ _ => .lit .non
    | .Constant (.str s) _ _ => .lit (.str s)
    | .BinOp a op b _ => .bin op (compE k c a) (compE k c b)
    | .UnaryOp .USub a _ => .neg (compE k c a)
    | .UnaryOp .Not a _ => .not (compE k c a)
    | .BoolOp .And es _ => .and (es.map (compE k c))
    | .BoolOp .Or es _ => .or (es.map (compE k c))
    | .Compare a [op] [b] _ => bif notSet b then .cmp op (compE k c a) (compE k c b) else .never
    | .Compare a [o1, o2] [b, d] _ => bif notSet b && notSet d then .chain o1 o2 (compE k c a) (compE k c b) (compE k c d) else .never
    | .IfExp t a b _ => .ife (testE tj (compE k c) t) (compE k c a) (compE k c b)
    | .Tuple es _ _ => bif es.all notStar then .tup (es.map (compE k c)) else .never
    | .List es _ => bif es.all notStar then .lst (es.map (compE k c)) else .never
    | .Dict ks vs _ => (match allSome (ks.map strKey) with
      | some ss => bif decide (ks.length = vs.length) && (decide (0 < ks.length) && decide (ks.length ≤ 15)) then .dct ss (vs.map (compE k c)) else .never
      | none => .never)
    | .Subscript a b _ => subE (compE k c a) (compE k c) b
    | .Call f args kws cpos => (match f with
      | .Name f _ => callE c (compE k c) f args kws
      | .Attribute o m apos => methE (compE k c) o m apos args kws cpos
      | _ => .never)
    | .ListComp elt gs scope _ => lcE c (compE k) elt gs scope
    | _ => .never
/-- the target names of a stores' row -/
def namesOf (c : Cc) (ts : List Expr) : Option (List Nat) := allSome (ts.map fun e => match e with
  | .Name x _ => bif locB c.sc x then slotOf c.N x else none
  | _ => none)
/-- how the model stores a row of names from a row of values: nothing, or the names whose stores are swapped -/
def swN (c : Cc) (ts : List Expr) : List Str := ts.filterMap fun
  | .Name id pos => if c.sc.names.lookup id == some .local && pos.line == (ts.head?.map (·.pos.line)).getD 0 then some id else none
  | _ => none
def swC (c : Cc) (ts vs : List Expr) : Option (Option (List Str)) :=
  bif !(ts.length == 2 || ts.length == 3) || vs.length != ts.length then some none
  else bif (swN c ts).length != ts.length || (swN c ts).eraseDups.length != (swN c ts).length then some none
  else bif vs.all (foldedForSure 8) then some none
  else bif vs.all (constantsAlone 8) then none
  else some (some (swN c ts))
def compS : Nat → Cc → Stmt → IS
  | 0, _, _ => .never
  | k + 1, c, s => match s with
    | .Assign [.Name x _] e _ => bif locB c.sc x then (match slotOf c.N x with
        | some i => .asg i (compE k c e)
        | none => .never)
      else .never
    | .Assign [.Tuple ts _ _] (.Tuple es _ _) _ => (match namesOf c ts, swC c ts es with
      | some ns, some _ => bif es.all notStar && (decide (ts.length = es.length) && decide (ts.length ≤ 1000)) then .par ns (es.map (compE k c)) else .never
      | _, _ => .never)
    | .Assign [.Tuple ts _ _] e _ => (match namesOf c ts with
      | some ns => bif notComp e && notTuple e then .asgT ns (compE k c e) else .never
      | none => .never)
    | .Assign [.Subscript o (.Constant (.str s) _ _) _] e _ => bif notComp e then .put (compE k c o) s (compE k c e) else .never
    | .If t a b _ => .ifs (testE tj (compE k c) t) (a.map (compS k c)) (b.map (compS k c))
    | .While t b [] _ => .whl (testE tj (compE k c) t) (b.map (compS k c))
    | .For tg it b [] _ => (match tgOf c tg with
      | some g => bif notSet it && tgFits tg (ikOf c it) then .forS g (ikOf c it) ((itArgs (ikOf c it) it).map (compE k c)) (b.map (compS k c)) else .never
      | none => .never)
    | .Return (some e) _ => .ret (compE k c e)
    | .Return none _ => .retN
    | .Expr e _ => bif notComp e then .expr (compE k c e) else .never
    | .Pass _ => .pass
    | .Break _ => .brk
    | .Continue _ => .cont
    | _ => .never
end MI
end
section
set_option Elab.async false
set_option linter.all false
set_option maxRecDepth 100000
set_option maxHeartbeats 4000000
/-! MI2: what the own values and stores stand for in the layer's heap. -/
namespace MI
open PySem PySem.Spec PyProof.Rows L2

mutual
inductive RelP (K : PySem.W.Frag) (φ : List Addr) (H : Hp) : PV → V → Prop
  | non : RelP K φ H .non .non
  | bl (b : Bool) : RelP K φ H (.bl b) (.bl b)
  | int (i : Int) : RelP K φ H (.int i) (.int i)
  | str (s : Str) : RelP K φ H (.str s) (.str s)
  | ty (n : String) : RelP K φ H (.ty n) (.ty n)
  | tup {a : Addr} {vs : List V} {xs : List PV} : SqT K H a vs → RelPs K φ H xs vs → RelP K φ H (.tup xs) (.ref a)
  | frz {a : Addr} {vs : List V} {xs : List PV} : (∃ o, H a = some (.frz o (.lst vs))) ∨ (∀ H', SqL K H' a vs) → RelPs K φ H xs vs → RelP K φ H (.frz xs) (.ref a)
  | ref {n : Nat} {a : Addr} : φ[n]? = some a → RelP K φ H (.ref n) (.ref a)
inductive RelPs (K : PySem.W.Frag) (φ : List Addr) (H : Hp) : List PV → List V → Prop
  | nil : RelPs K φ H [] []
  | cons {x : PV} {xs : List PV} {v : V} {vs : List V} : RelP K φ H x v → RelPs K φ H xs vs → RelPs K φ H (x :: xs) (v :: vs)
end

/-- how the heap may go on: new addresses told, tuples and frozen things kept, what is not told kept -/
structure Evo (φ φ' : List Addr) (H H' : Hp) : Prop where
  pre : ∃ more, φ' = φ ++ more ∧ ∀ a ∈ more, H a = none
  tup : ∀ b xs, H b = some (.tup xs) → H' b = some (.tup xs)
  frz : ∀ b o u, H b = some (.frz o u) → H' b = some (.frz o u)
  out : ∀ b o, H b = some o → b ∉ φ → H' b = some o
  dom : ∀ b o, H b = some o → ∃ o', H' b = some o'
theorem Evo.refl (φ : List Addr) (H : Hp) : Evo φ φ H H := ⟨⟨[], by simp, by simp⟩, fun _ _ h => h, fun _ _ _ h => h, fun _ _ h _ => h, fun _ o h => ⟨o, h⟩⟩
theorem Evo.trans {φ φ1 φ2 : List Addr} {H H1 H2 : Hp} (a : Evo φ φ1 H H1) (b : Evo φ1 φ2 H1 H2) : Evo φ φ2 H H2 := by
  obtain ⟨m1, e1, f1⟩ := a.pre
  obtain ⟨m2, e2, f2⟩ := b.pre
  refine ⟨⟨m1 ++ m2, by rw [e2, e1, List.append_assoc], fun x hx => ?_⟩, fun c xs h => b.tup c xs (a.tup c xs h), fun c o u h => b.frz c o u (a.frz c o u h), fun c o h hn => ?_, fun c o h => ?_⟩
  · rcases List.mem_append.mp hx with hx | hx
    · exact f1 x hx
    · cases q : H x with
      | none => rfl
      | some o =>
        obtain ⟨o', h'⟩ := a.dom x o q
        rw [f2 x hx] at h'
        cases h'
  · have h1 := a.out c o h hn
    refine b.out c o h1 fun hm => ?_
    rw [e1] at hm
    rcases List.mem_append.mp hm with hm | hm
    · exact hn hm
    · rw [f1 c hm] at h
      cases h
  · obtain ⟨o1, h1⟩ := a.dom c o h
    exact b.dom c o1 h1
theorem Evo.get {φ φ' : List Addr} {H H' : Hp} (e : Evo φ φ' H H') {n : Nat} {a : Addr} (h : φ[n]? = some a) : φ'[n]? = some a := by
  obtain ⟨m, e1, _⟩ := e.pre
  rw [e1, List.getElem?_append_left (List.getElem?_eq_some_iff.mp h).1, h]
theorem Evo.sqT {K : PySem.W.Frag} {φ φ' : List Addr} {H H' : Hp} (e : Evo φ φ' H H') {a : Addr} {vs : List V} (h : SqT K H a vs) : SqT K H' a vs := by
  rcases h with (h | ⟨o, h⟩) | h
  · exact .inl (.inl (e.tup _ _ h))
  · exact .inl (.inr ⟨o, e.frz _ _ _ h⟩)
  · exact .inr h
theorem Evo.nin {φ φ' : List Addr} {H H' : Hp} (e : Evo φ φ' H H') {p : Addr} {o : HO} (h : H p = some o) (hn : p ∉ φ) : p ∉ φ' := by
  obtain ⟨m, e1, f⟩ := e.pre
  intro hm
  rw [e1] at hm
  rcases List.mem_append.mp hm with hm | hm
  · exact hn hm
  · rw [f p hm] at h
    cases h
theorem Evo.free {φ φ' : List Addr} {H H' : Hp} (e : Evo φ φ' H H') {p : Addr} (h : H' p = none) : H p = none := by
  cases q : H p with
  | none => rfl
  | some o =>
    obtain ⟨o', h'⟩ := e.dom p o q
    rw [h] at h'
    cases h'
/-- a new object that is not told -/
theorem Evo.new {φ : List Addr} {H : Hp} {p : Addr} {o : HO} (h : H p = none) : Evo φ φ H (upd H p o) := by
  have k : ∀ b u, H b = some u → upd H p o b = some u := fun b u e => by rw [upd_ne (ne_of_none e h)]; exact e
  exact ⟨⟨[], by simp, by simp⟩, fun b xs e => k b _ e, fun b o u e => k b _ e, fun b o e _ => k b o e, fun b u e => ⟨u, k b u e⟩⟩

section
variable {K : PySem.W.Frag} {φ φ' : List Addr} {H H' : Hp}
mutual
theorem RelP.mono (e : Evo φ φ' H H') : ∀ {x : PV} {v : V}, RelP K φ H x v → RelP K φ' H' x v
  | _, _, .non => .non
  | _, _, .bl b => .bl b
  | _, _, .int i => .int i
  | _, _, .str s => .str s
  | _, _, .ty n => .ty n
  | _, _, .tup h r => .tup (e.sqT h) (RelPs.mono e r)
  | _, _, .frz h r => .frz (h.elim (fun ⟨o, q⟩ => .inl ⟨o, e.frz _ _ _ q⟩) .inr) (RelPs.mono e r)
  | _, _, .ref h => .ref (e.get h)
theorem RelPs.mono (e : Evo φ φ' H H') : ∀ {xs : List PV} {vs : List V}, RelPs K φ H xs vs → RelPs K φ' H' xs vs
  | _, _, .nil => .nil
  | _, _, .cons r rs => .cons (RelP.mono e r) (RelPs.mono e rs)
end
theorem RelPs.length {xs : List PV} {vs : List V} (h : RelPs K φ H xs vs) : xs.length = vs.length := by
  induction xs generalizing vs with
  | nil => cases h; rfl
  | cons x xs ih =>
    cases h with
    | cons r rs => rw [List.length_cons, List.length_cons, ih rs]
theorem RelPs.get {xs : List PV} {vs : List V} (h : RelPs K φ H xs vs) : ∀ {i : Nat} {x : PV}, xs[i]? = some x → ∃ v, vs[i]? = some v ∧ RelP K φ H x v := by
  induction xs generalizing vs with
  | nil => intro i x e; simp at e
  | cons x xs ih =>
    cases h with
    | cons r rs =>
      intro i y e
      cases i with
      | zero => simp at e; subst e; exact ⟨_, rfl, r⟩
      | succ i => simp at e; obtain ⟨v, h1, h2⟩ := ih rs e; exact ⟨v, by simpa using h1, h2⟩
theorem RelPs.get' {xs : List PV} {vs : List V} (h : RelPs K φ H xs vs) : ∀ {i : Nat} {v : V}, vs[i]? = some v → ∃ x, xs[i]? = some x ∧ RelP K φ H x v := by
  intro i v e
  have hl := h.length
  have hi : i < vs.length := (List.getElem?_eq_some_iff.mp e).1
  obtain ⟨v', h1, h2⟩ := h.get (i := i) (x := xs[i]'(by omega)) (by simp)
  rw [e] at h1
  cases h1
  exact ⟨_, by simp, h2⟩
theorem RelPs.append {xs ys : List PV} {vs ws : List V} (h : RelPs K φ H xs vs) (h2 : RelPs K φ H ys ws) : RelPs K φ H (xs ++ ys) (vs ++ ws) := by
  induction xs generalizing vs with
  | nil => cases h; exact h2
  | cons x xs ih =>
    cases h with
    | cons r rs => exact .cons r (ih rs)
theorem RelPs.take {xs : List PV} {vs : List V} (n : Nat) (h : RelPs K φ H xs vs) : RelPs K φ H (xs.take n) (vs.take n) := by
  induction n generalizing xs vs with
  | zero => exact .nil
  | succ n ih =>
    cases h with
    | nil => exact .nil
    | cons r rs => exact .cons r (ih rs)
theorem RelPs.drop {xs : List PV} {vs : List V} (n : Nat) (h : RelPs K φ H xs vs) : RelPs K φ H (xs.drop n) (vs.drop n) := by
  induction n generalizing xs vs with
  | zero => exact h
  | succ n ih =>
    cases h with
    | nil => exact .nil
    | cons r rs => exact ih rs
theorem RelPs.cut {xs : List PV} {vs : List V} (h : RelPs K φ H xs vs) (lo hi : Option Int) : RelPs K φ H (cutP xs lo hi) (cutV vs lo hi) := by
  unfold cutP cutV
  rw [h.length]
  exact (h.drop _).take _
theorem RelPs.rev {xs : List PV} {vs : List V} (h : RelPs K φ H xs vs) : RelPs K φ H xs.reverse vs.reverse := by
  induction xs generalizing vs with
  | nil => cases h; exact .nil
  | cons x xs ih =>
    cases h with
    | cons r rs =>
      rw [List.reverse_cons, List.reverse_cons]
      exact (ih rs).append (.cons r .nil)
theorem RelPs.rep {xs : List PV} {vs : List V} (h : RelPs K φ H xs vs) (n : Nat) : RelPs K φ H (List.replicate n xs).flatten (List.replicate n vs).flatten := by
  induction n with
  | zero => exact .nil
  | succ n ih =>
    rw [List.replicate_succ, List.replicate_succ, List.flatten_cons, List.flatten_cons]
    exact h.append ih
theorem RelPs.dropLast {xs : List PV} {vs : List V} (h : RelPs K φ H xs vs) : RelPs K φ H xs.dropLast vs.dropLast := by
  rw [List.dropLast_eq_take, List.dropLast_eq_take, h.length]
  exact h.take _
theorem RelPs.nil_iff {xs : List PV} {vs : List V} (h : RelPs K φ H xs vs) : xs = [] ↔ vs = [] := by
  cases h with
  | nil => simp
  | cons _ _ => simp
theorem RelPs.empty {xs : List PV} {vs : List V} (h : RelPs K φ H xs vs) : xs.isEmpty = vs.isEmpty := by
  cases h <;> rfl
end

/-- a dict's pairs -/
abbrev RelK (K : PySem.W.Frag) (φ : List Addr) (H : Hp) : List (Key × PV) → List (Key × V) → Prop := Paired fun p q => p.1 = q.1 ∧ RelP K φ H p.2 q.2
def CellR (K : PySem.W.Frag) (φ : List Addr) (H : Hp) (a : Addr) : Cell → Prop
  | .lst xs => ∃ vs, H a = some (.lst vs) ∧ RelPs K φ H xs vs
  | .dct kvs => ∃ kws, H a = some (.dK kws) ∧ RelK K φ H kvs kws
structure StR (K : PySem.W.Frag) (φ : List Addr) (H : Hp) (st : Store) : Prop where
  len : φ.length = st.length
  nd : φ.Nodup
  at_ : ∀ (n : Nat) (c : Cell) (a : Addr), st[n]? = some c → φ[n]? = some a → CellR K φ H a c
theorem RelK.mono {K : PySem.W.Frag} {φ φ' : List Addr} {H H' : Hp} (e : Evo φ φ' H H') : ∀ {kvs : List (Key × PV)} {kws : List (Key × V)}, RelK K φ H kvs kws → RelK K φ' H' kvs kws
  | _, _, .nil => .nil
  | _, _, .cons ⟨h1, h2⟩ r => .cons ⟨h1, h2.mono e⟩ (RelK.mono e r)
section
variable {K : PySem.W.Frag} {φ φ' : List Addr} {H H' : Hp} {st : Store}
theorem StR.get (S : StR K φ H st) {n : Nat} {c : Cell} (h : st[n]? = some c) : ∃ a, φ[n]? = some a ∧ CellR K φ H a c := by
  have hn : n < φ.length := by rw [S.len]; exact (List.getElem?_eq_some_iff.mp h).1
  exact ⟨φ[n], by simp, S.at_ n c _ h (by simp)⟩
theorem StR.there (S : StR K φ H st) {a : Addr} (h : a ∈ φ) : ∃ o, H a = some o := by
  obtain ⟨n, hn, e⟩ := List.getElem_of_mem h
  have hs : n < st.length := by rw [← S.len]; exact hn
  have := S.at_ n st[n] a (by simp) (by rw [← e]; simp)
  cases q : st[n] with
  | lst xs => rw [q] at this; obtain ⟨vs, h1, _⟩ := this; exact ⟨_, h1⟩
  | dct kvs => rw [q] at this; obtain ⟨vs, h1, _⟩ := this; exact ⟨_, h1⟩
/-- an untold new object -/
theorem StR.new (S : StR K φ H st) {p : Addr} {o : HO} (h : H p = none) : StR K φ (upd H p o) st := by
  have ev : Evo φ φ H (upd H p o) := .new h
  refine ⟨S.len, S.nd, fun n c a h1 h2 => ?_⟩
  have z := S.at_ n c a h1 h2
  cases c with
  | lst xs => obtain ⟨vs, q, r⟩ := z; exact ⟨vs, by rw [upd_ne (ne_of_none q h)]; exact q, r.mono ev⟩
  | dct kvs => obtain ⟨vs, q, r⟩ := z; exact ⟨vs, by rw [upd_ne (ne_of_none q h)]; exact q, RelK.mono ev r⟩
/-- an untold object that changes -/
theorem Evo.mut {p : Addr} {o u : HO} (h : H p = some u) (hp : p ∉ φ) (hu : Mut (some u)) : (∀ b xs, H b = some (.tup xs) → upd H p o b = some (.tup xs)) ∧ (∀ b o' u', H b = some (.frz o' u') → upd H p o b = some (.frz o' u')) := by
  refine ⟨fun b xs e => ?_, fun b o' u' e => ?_⟩
  · have : b ≠ p := fun z => by
      subst z
      rw [h] at e
      cases e
      exact hu
    rw [upd_ne this]
    exact e
  · have : b ≠ p := fun z => by
      subst z
      rw [h] at e
      cases e
      exact hu
    rw [upd_ne this]
    exact e
end
section
variable {K : PySem.W.Frag} {φ φ' : List Addr} {H : Hp}
mutual
theorem RelP.grow (k : ∀ (n : Nat) (a : Addr), φ[n]? = some a → φ'[n]? = some a) : ∀ {x : PV} {v : V}, RelP K φ H x v → RelP K φ' H x v
  | _, _, .non => .non
  | _, _, .bl b => .bl b
  | _, _, .int i => .int i
  | _, _, .str s => .str s
  | _, _, .ty n => .ty n
  | _, _, .tup h r => .tup h (RelPs.grow k r)
  | _, _, .frz h r => .frz h (RelPs.grow k r)
  | _, _, .ref h => .ref (k _ _ h)
theorem RelPs.grow (k : ∀ (n : Nat) (a : Addr), φ[n]? = some a → φ'[n]? = some a) : ∀ {xs : List PV} {vs : List V}, RelPs K φ H xs vs → RelPs K φ' H xs vs
  | _, _, .nil => .nil
  | _, _, .cons r rs => .cons (RelP.grow k r) (RelPs.grow k rs)
end
theorem RelK.grow (k : ∀ (n : Nat) (a : Addr), φ[n]? = some a → φ'[n]? = some a) : ∀ {kvs : List (Key × PV)} {kws : List (Key × V)}, RelK K φ H kvs kws → RelK K φ' H kvs kws
  | _, _, .nil => .nil
  | _, _, .cons ⟨h1, h2⟩ r => .cons ⟨h1, h2.grow k⟩ (RelK.grow k r)
end
/-- values that a turn of an untold mutable object leaves: tuples, frozen things, told addresses -/
structure Keeps (H H' : Hp) : Prop where
  tup : ∀ b xs, H b = some (.tup xs) → H' b = some (.tup xs)
  frz : ∀ b o u, H b = some (.frz o u) → H' b = some (.frz o u)
section
variable {K : PySem.W.Frag} {φ : List Addr} {H H' : Hp}
mutual
theorem RelP.keep (e : Keeps H H') : ∀ {x : PV} {v : V}, RelP K φ H x v → RelP K φ H' x v
  | _, _, .non => .non
  | _, _, .bl b => .bl b
  | _, _, .int i => .int i
  | _, _, .str s => .str s
  | _, _, .ty n => .ty n
  | _, _, .tup h r => .tup (by
      rcases h with (h | ⟨o, h⟩) | h
      · exact .inl (.inl (e.tup _ _ h))
      · exact .inl (.inr ⟨o, e.frz _ _ _ h⟩)
      · exact .inr h) (RelPs.keep e r)
  | _, _, .frz h r => .frz (h.elim (fun ⟨o, q⟩ => .inl ⟨o, e.frz _ _ _ q⟩) .inr) (RelPs.keep e r)
  | _, _, .ref h => .ref h
theorem RelPs.keep (e : Keeps H H') : ∀ {xs : List PV} {vs : List V}, RelPs K φ H xs vs → RelPs K φ H' xs vs
  | _, _, .nil => .nil
  | _, _, .cons r rs => .cons (RelP.keep e r) (RelPs.keep e rs)
end
theorem RelK.keep (e : Keeps H H') : ∀ {kvs : List (Key × PV)} {kws : List (Key × V)}, RelK K φ H kvs kws → RelK K φ H' kvs kws
  | _, _, .nil => .nil
  | _, _, .cons ⟨h1, h2⟩ r => .cons ⟨h1, h2.keep e⟩ (RelK.keep e r)
theorem Keeps.upd {p : Addr} {o u : HO} (h : H p = some u) (hu : Mut (some u)) : Keeps H (upd H p o) := by
  refine ⟨fun b xs e => ?_, fun b o' u' e => ?_⟩
  · have : b ≠ p := fun z => by
      subst z
      rw [h] at e
      cases e
      exact hu
    rw [upd_ne this]
    exact e
  · have : b ≠ p := fun z => by
      subst z
      rw [h] at e
      cases e
      exact hu
    rw [upd_ne this]
    exact e
/-- a told cell is written -/
theorem StR.write {st : Store} (S : StR K φ H st) {m : Nat} {a : Addr} {u o : HO} {c : Cell} (hm : m < st.length) (ha : φ[m]? = some a) (h : H a = some u) (hu : Mut (some u)) (hc : CellR K φ (L2.upd H a o) a c) : StR K φ (L2.upd H a o) (st.set m c) := by
  have kp : Keeps H (L2.upd H a o) := .upd h hu
  refine ⟨by rw [List.length_set]; exact S.len, S.nd, fun n c' b h1 h2 => ?_⟩
  by_cases e : n = m
  · subst e
    rw [ha] at h2
    cases h2
    rw [List.getElem?_set_self hm] at h1
    cases h1
    exact hc
  · rw [List.getElem?_set_ne (Ne.symm e)] at h1
    have hb : b ≠ a := fun z => by
      subst z
      have l1 := (List.getElem?_eq_some_iff.mp h2).1
      have l2 := (List.getElem?_eq_some_iff.mp ha).1
      exact e ((List.getElem_inj S.nd).mp ((List.getElem?_eq_some_iff.mp h2).2.trans (List.getElem?_eq_some_iff.mp ha).2.symm))
    have z := S.at_ n c' b h1 h2
    cases c' with
    | lst xs => obtain ⟨vs, q, r⟩ := z; exact ⟨vs, by rw [upd_ne hb]; exact q, r.keep kp⟩
    | dct kvs => obtain ⟨vs, q, r⟩ := z; exact ⟨vs, by rw [upd_ne hb]; exact q, RelK.keep kp r⟩
theorem Evo.write {m : Nat} {a : Addr} {u o : HO} (ha : φ[m]? = some a) (h : H a = some u) (hu : Mut (some u)) : Evo φ φ H (L2.upd H a o) := by
  have kp : Keeps H (L2.upd H a o) := .upd h hu
  have hm : a ∈ φ := List.mem_of_getElem? ha
  refine ⟨⟨[], by simp, by simp⟩, kp.tup, kp.frz, fun b o' e hn => ?_, fun b o' e => ?_⟩
  · rw [upd_ne (fun z => hn (by rw [z]; exact hm))]
    exact e
  · by_cases z : b = a
    · subst z
      exact ⟨o, upd_same⟩
    · exact ⟨o', by rw [upd_ne z]; exact e⟩
/-- an untold object becomes a told cell -/
theorem StR.tell {st : Store} (S : StR K φ H st) {p : Addr} {c : Cell} (hp : p ∉ φ) (hc : ∀ φ', (∀ (n : Nat) (a : Addr), φ[n]? = some a → φ'[n]? = some a) → CellR K φ' H p c) : StR K (φ ++ [p]) H (st ++ [c]) := by
  have k : ∀ (n : Nat) (a : Addr), φ[n]? = some a → (φ ++ [p])[n]? = some a := fun n a h => by
    rw [List.getElem?_append_left (List.getElem?_eq_some_iff.mp h).1, h]
  refine ⟨by simp [S.len], ?_, fun n c' a h1 h2 => ?_⟩
  · rw [List.nodup_append]
    refine ⟨S.nd, by simp, fun a h b hb => ?_⟩
    rw [List.mem_singleton] at hb
    subst hb
    exact fun z => hp (by rw [← z]; exact h)
  · by_cases e : n < st.length
    · rw [List.getElem?_append_left e] at h1
      rw [List.getElem?_append_left (by rw [S.len]; exact e)] at h2
      have z := S.at_ n c' a h1 h2
      cases c' with
      | lst xs => obtain ⟨vs, q, r⟩ := z; exact ⟨vs, q, r.grow k⟩
      | dct kvs => obtain ⟨vs, q, r⟩ := z; exact ⟨vs, q, RelK.grow k r⟩
    · have en : n = st.length := by
        have := (List.getElem?_eq_some_iff.mp h1).1
        simp at this
        omega
      subst en
      rw [List.getElem?_append_right (Nat.le_refl _)] at h1
      rw [List.getElem?_append_right (by rw [S.len]; exact Nat.le_refl _)] at h2
      simp [S.len] at h1 h2
      subst h1 h2
      exact hc _ k
end
end MI
end
section
set_option Elab.async false
set_option linter.all false
set_option maxRecDepth 100000
set_option maxHeartbeats 4000000
/-! MI3: operations on values, against the layer's rules by values. -/
namespace MI
open PySem PySem.Spec PyProof.Rows L2

def RelRV (K : PySem.W.Frag) (φ : List Addr) (H : Hp) : RV → V → Prop
  | .val v, u => RelP K φ H v u
  | .new xs, u => ∃ p vs, u = .ref p ∧ H p = some (.lst vs) ∧ p ∉ φ ∧ RelPs K φ H xs vs
def FreshRV (H : Hp) : RV → V → Prop
  | .val _, _ => True
  | .new _, u => ∀ p, u = .ref p → H p = none
theorem RelRV.mono {K : PySem.W.Frag} {φ φ' : List Addr} {H H' : Hp} (e : Evo φ φ' H H') {x : RV} {u : V} (h : RelRV K φ H x u) : RelRV K φ' H' x u := by
  cases x with
  | val v => exact RelP.mono e h
  | new xs =>
    obtain ⟨p, vs, h1, h2, h3, h4⟩ := h
    exact ⟨p, vs, h1, e.out p _ h2 h3, e.nin h2 h3, h4.mono e⟩
theorem FreshRV.back {φ φ' : List Addr} {H H' : Hp} (e : Evo φ φ' H H') {x : RV} {u : V} (h : FreshRV H' x u) : FreshRV H x u := by
  cases x with
  | val v => trivial
  | new xs => exact fun p hp => e.free (h p hp)
/-- what follows a result -/
def PostV (K : PySem.W.Frag) (φ : List Addr) (H : Hp) (rv : RV) (st' : Store) (Q : VK) : Prop :=
  ∀ φ' H' u, Evo φ φ' H H' → StR K φ' H' st' → RelRV K φ' H' rv u → FreshRV H rv u → Q u H'
def PostE (K : PySem.W.Frag) (φ : List Addr) (H : Hp) (v : PV) (st' : Store) (Q : VK) : Prop :=
  ∀ φ' H' u, Evo φ φ' H H' → StR K φ' H' st' → RelP K φ' H' v u → Q u H'
section
variable {K : PySem.W.Frag} {φ φ' : List Addr} {H H' : Hp} {st st' : Store} {Q : VK}
theorem PostV.step {rv : RV} (h : PostV K φ H rv st' Q) (e : Evo φ φ' H H') : PostV K φ' H' rv st' Q := fun φ2 H2 u e2 s r f => h φ2 H2 u (e.trans e2) s r (f.back e)
theorem PostE.step {v : PV} (h : PostE K φ H v st' Q) (e : Evo φ φ' H H') : PostE K φ' H' v st' Q := fun φ2 H2 u e2 s r => h φ2 H2 u (e.trans e2) s r
theorem PostE.val {v : PV} (h : PostE K φ H v st' Q) : PostV K φ H (.val v) st' Q := fun φ2 H2 u e s r _ => h φ2 H2 u e s r
/-- a plain value, nothing changed -/
theorem PostV.now {v : PV} {u : V} (h : PostV K φ H (.val v) st Q) (s : StR K φ H st) (r : RelP K φ H v u) : Q u H := h φ H u (.refl _ _) s r trivial
theorem StR.nin (s : StR K φ H st) {p : Addr} (hp : H p = none) : p ∉ φ := fun hm => by
  obtain ⟨o, q⟩ := s.there hm
  rw [hp] at q
  exact nomatch q
/-- a tuple just made -/
theorem PostV.tup {xs : List PV} {vs : List V} (h : PostV K φ H (.val (.tup xs)) st Q) (s : StR K φ H st) (r : RelPs K φ H xs vs) {p : Addr} (hp : H p = none) : Q (.ref p) (upd H p (.tup vs)) :=
  h φ _ _ (.new hp) (s.new hp) (.tup (.inl (.inl upd_same)) (r.mono (.new hp))) trivial
theorem PostV.lst {xs : List PV} {vs : List V} (h : PostV K φ H (.new xs) st Q) (s : StR K φ H st) (r : RelPs K φ H xs vs) {p : Addr} (hp : H p = none) : Q (.ref p) (upd H p (.lst vs)) :=
  h φ _ _ (.new hp) (s.new hp) ⟨p, vs, rfl, upd_same, s.nin hp, r.mono (.new hp)⟩ fun q e => by
    cases e
    exact hp
/-- a new list becomes a told one -/
theorem PostE.alloc {rv : RV} (h : PostE K φ H (allocR (rv, st')).1 (allocR (rv, st')).2 Q) : PostV K φ H rv st' Q := by
  intro φ1 H1 u e s r f
  cases rv with
  | val v => exact h φ1 H1 u e s r
  | new xs =>
    obtain ⟨p, vs, rfl, hp, hn, hr⟩ := r
    have hp0 : H p = none := f p rfl
    refine h (φ1 ++ [p]) H1 (.ref p) ?_ (s.tell hn fun φ' k => ⟨vs, hp, hr.grow k⟩) (.ref ?_)
    · obtain ⟨m, e1, e2⟩ := e.pre
      refine ⟨⟨m ++ [p], by rw [e1, List.append_assoc], fun a ha => ?_⟩, e.tup, e.frz, e.out, e.dom⟩
      rcases List.mem_append.mp ha with ha | ha
      · exact e2 a ha
      · rw [List.mem_singleton] at ha
        rw [ha]
        exact hp0
    · show (φ1 ++ [p])[st'.length]? = some p
      rw [List.getElem?_append_right (by rw [s.len]; exact Nat.le_refl _), s.len]
      simp
theorem RelP.int_inv {i : Int} {u : V} (h : RelP K φ H (.int i) u) : u = .int i := by cases h; rfl
theorem RelP.bl_inv {i : Bool} {u : V} (h : RelP K φ H (.bl i) u) : u = .bl i := by cases h; rfl
theorem RelP.str_inv {i : Str} {u : V} (h : RelP K φ H (.str i) u) : u = .str i := by cases h; rfl
theorem RelP.non_inv {u : V} (h : RelP K φ H .non u) : u = .non := by cases h; rfl
theorem RelP.tup_inv {xs : List PV} {u : V} (h : RelP K φ H (.tup xs) u) : ∃ a vs, u = .ref a ∧ SqT K H a vs ∧ RelPs K φ H xs vs := by
  cases h with
  | tup h r => exact ⟨_, _, rfl, h, r⟩
theorem RelP.ref_inv {n : Nat} {u : V} (h : RelP K φ H (.ref n) u) : ∃ a, u = .ref a ∧ φ[n]? = some a := by
  cases h with
  | ref h => exact ⟨_, rfl, h⟩
theorem lim_line {n : Nat} (h : n ≤ lim) : n ≤ sizeLine := Nat.le_trans h (by decide)
theorem lim_lt {n : Nat} (h : n < lim) : n < sizeLine := Nat.lt_of_lt_of_le h (by decide)
/-- a list or a tuple, read -/
theorem items_ok {x : RV} {b : Bool} {xs : List PV} {u : V} (h : itemsOf st x = some (b, xs)) (r : RelRV K φ H x u) (s : StR K φ H st) : ∃ p vs, u = .ref p ∧ RelPs K φ H xs vs ∧ (b = true → SqL K H p vs) ∧ (b = false → SqT K H p vs ∧ x = .val (.tup xs)) := by
  cases x with
  | new ys =>
    obtain ⟨p, vs, rfl, hp, hn, hr⟩ := r
    cases h
    exact ⟨p, vs, rfl, hr, fun _ => .inl (.inl hp), fun z => nomatch z⟩
  | val v =>
    cases v with
    | tup ys =>
      obtain ⟨a, vs, rfl, ha, hr⟩ := RelP.tup_inv r
      cases h
      exact ⟨a, vs, rfl, hr, fun z => (nomatch z), fun _ => ⟨ha, rfl⟩⟩
    | frz ys =>
      cases h
      cases r with
      | frz ha hr =>
        refine ⟨_, _, rfl, hr, fun _ => ?_, fun z => nomatch z⟩
        rcases ha with ⟨o, q⟩ | q
        · exact .inl (.inr ⟨o, q⟩)
        · exact q H
    | ref n =>
      obtain ⟨a, rfl, ha⟩ := RelP.ref_inv r
      have h' : (match st[n]? with | some (.lst xs) => some (true, xs) | _ => none) = some (b, xs) := h
      cases q : st[n]? with
      | none => rw [q] at h'; cases h'
      | some c =>
        rw [q] at h'
        cases c with
        | dct kvs => cases h'
        | lst ys =>
          cases h'
          obtain ⟨vs, h1, h2⟩ := s.at_ n _ a q ha
          exact ⟨a, vs, rfl, h2, fun _ => .inl (.inl h1), fun z => nomatch z⟩
    | _ => cases h
end

section
variable {X : Cx} {st : Store}
/-- a rule by values for an operation on two results -/
def BinOk (X : Cx) (f : Value → Value → Sem Value) (x y : RV) (st : Store) (r : RV) : Prop :=
  ∃ rr : R2, OpR X f rr ∧ ∀ φ H u1 u2 Q, RelRV X.K φ H x u1 → RelRV X.K φ H y u2 → StR X.K φ H st → PostV X.K φ H r st Q → rr u1 u2 H Q
theorem bif_some {α : Type} {c : Bool} {a b : α} (h : (bif c then some a else none) = some b) : c = true ∧ a = b := by
  cases c with
  | true => exact ⟨rfl, Option.some.inj h⟩
  | false => cases h
theorem binI_ok {op : Operator} {i j z : Int} (h : binI op i j = some z) : BinOk X (binaryOp op) (.val (.int i)) (.val (.int j)) st (.val (.int z)) := by
  have mk : ∀ (C : Int → Int → Prop) (g : Int → Int → Int), OpR X (binaryOp op) (rI C fun i j => .int (g i j)) → C i j → g i j = z → BinOk X (binaryOp op) (.val (.int i)) (.val (.int j)) st (.val (.int z)) := by
    intro C g ho hc e
    refine ⟨_, ho, fun φ H u1 u2 Q r1 r2 s q => ?_⟩
    rw [RelP.int_inv r1, RelP.int_inv r2]
    refine ⟨i, j, rfl, rfl, hc, ?_⟩
    subst e
    exact q.now s (.int _)
  have mk0 : ∀ (g : Int → Int → Int), OpR X (binaryOp op) (rI0 fun i j => .int (g i j)) → g i j = z → BinOk X (binaryOp op) (.val (.int i)) (.val (.int j)) st (.val (.int z)) := by
    intro g ho e
    refine ⟨_, ho, fun φ H u1 u2 Q r1 r2 s q => ?_⟩
    rw [RelP.int_inv r1, RelP.int_inv r2]
    refine ⟨i, j, rfl, rfl, ?_⟩
    subst e
    exact q.now s (.int _)
  cases op with
  | Add => exact mk0 _ op_add (Option.some.inj h)
  | Sub => exact mk0 _ op_sub (Option.some.inj h)
  | Mult =>
    obtain ⟨c, e⟩ := bif_some h
    exact mk _ _ op_mulW (show CMulW i j from (of_decide_eq_true (show decide (i.natAbs.log2 + j.natAbs.log2 < 1000000) = true from c) : i.natAbs.log2 + j.natAbs.log2 < 1000000)) e
  | FloorDiv =>
    obtain ⟨c, e⟩ := bif_some h
    have c' := Bool.and_eq_true_iff.mp c
    exact mk _ _ op_fdivW ⟨of_decide_eq_true c'.1, of_decide_eq_true c'.2⟩ e
  | Mod =>
    obtain ⟨c, e⟩ := bif_some h
    exact mk _ _ op_mod (of_decide_eq_true c) e
  | Pow =>
    obtain ⟨c, e⟩ := bif_some h
    have c1 := Bool.and_eq_true_iff.mp c
    have c2 := Bool.and_eq_true_iff.mp c1.2
    exact mk _ _ op_pow ⟨of_decide_eq_true c1.1, of_decide_eq_true c2.1, of_decide_eq_true c2.2⟩ e
  | LShift =>
    obtain ⟨c, e⟩ := bif_some h
    have c1 := Bool.and_eq_true_iff.mp c
    refine mk _ _ op_shlW ⟨of_decide_eq_true c1.1, ?_⟩ e
    have := of_decide_eq_true c1.2
    have e2 : (2 : Int) ^ 27 = 134217728 := by decide
    rw [e2]
    exact this
  | _ => cases h
theorem mutItems_ok {K : PySem.W.Frag} {φ : List Addr} {H : Hp} {st : Store} {x : RV} {xs : List PV} {u : V} (h : mutItems st x = some xs) (r : RelRV K φ H x u) (s : StR K φ H st) : ∃ p vs, u = .ref p ∧ H p = some (.lst vs) ∧ RelPs K φ H xs vs := by
  cases x with
  | new ys =>
    cases (Option.some.inj h)
    obtain ⟨p, vs, h1, h2, _, h3⟩ := r
    exact ⟨p, vs, h1, h2, h3⟩
  | val v =>
    cases v with
    | ref n =>
      obtain ⟨a, rfl, ha⟩ := RelP.ref_inv (show RelP K φ H (.ref n) u from r)
      replace h : (match st[n]? with
        | some (.lst xs) => some xs
        | _ => none) = some xs := h
      cases q : st[n]? with
      | none => rw [q] at h; cases h
      | some c =>
        rw [q] at h
        cases c with
        | lst ys =>
          cases (Option.some.inj h)
          obtain ⟨vs, h1, h2⟩ := s.at_ n _ a q ha
          exact ⟨a, vs, rfl, h1, h2⟩
        | dct _ => cases h
    | _ => cases h
theorem binop_ok {op : Operator} {x y r : RV} (h : binop op x y st = some r) : BinOk X (binaryOp op) x y st r := by
  unfold binop at h
  split at h
  · obtain ⟨z, h1, rfl⟩ := Option.map_eq_some_iff.mp h
    exact binI_ok h1
  · rename_i xs ys
    cases op with
    | Add =>
      obtain ⟨c, rfl⟩ := bif_some h
      refine ⟨_, op_catA, fun φ H u1 u2 Q r1 r2 s q => ?_⟩
      obtain ⟨a, vs, rfl, ha, ra⟩ := RelP.tup_inv r1
      obtain ⟨b, ws, rfl, hb, rb⟩ := RelP.tup_inv r2
      refine ⟨a, b, vs, ws, rfl, rfl, ha, hb, ?_, fun e => ?_, fun _ e => ?_, fun _ _ p hp => q.tup s (ra.append rb) hp⟩
      · rw [← ra.length, ← rb.length]
        exact lim_line (of_decide_eq_true c)
      · subst e
        cases ra
        exact q.now s r2
      · subst e
        cases rb
        rw [List.append_nil] at q
        exact q.now s r1
    | _ => cases h
  · rename_i xs k
    cases op with
    | Mult =>
      obtain ⟨c, rfl⟩ := bif_some h
      have c1 := Bool.and_eq_true_iff.mp c
      have c2 := Bool.and_eq_true_iff.mp c1.2
      have c3 := Bool.and_eq_true_iff.mp c2.2
      refine ⟨_, op_repT, fun φ H u1 u2 Q r1 r2 s q => ?_⟩
      obtain ⟨a, vs, rfl, ha, ra⟩ := RelP.tup_inv r1
      rw [RelP.int_inv r2]
      refine ⟨a, k, vs, rfl, rfl, ha, fun z => ?_, of_decide_eq_true c1.1, of_decide_eq_true c2.1, ?_, fun p hp => q.tup s (ra.rep _) hp⟩
      · have e := ra.nil_iff.mpr z
        have c4 := c3.2
        rw [e] at c4
        cases c4
      · rw [← ra.length]
        exact of_decide_eq_true c3.1
    | _ => cases h
  · cases op with
    | Add =>
      obtain ⟨xs, h1, h⟩ := Option.bind_eq_some_iff.mp h
      obtain ⟨ys, h2, h⟩ := Option.bind_eq_some_iff.mp h
      obtain ⟨c, rfl⟩ := bif_some h
      refine ⟨_, op_cat, fun φ H u1 u2 Q r1 r2 s q => ?_⟩
      obtain ⟨a, vs, rfl, ha, ra⟩ := mutItems_ok h1 r1 s
      obtain ⟨b, ws, rfl, hb, rb⟩ := mutItems_ok h2 r2 s
      refine ⟨a, b, vs, ws, rfl, rfl, ha, hb, ?_, fun p hp => q.lst s (ra.append rb) hp⟩
      rw [← ra.length, ← rb.length]
      exact lim_line (of_decide_eq_true c)
    | _ => cases h

/-- a rule by values for a comparison -/
def CmpOk (X : Cx) (f : Value → Value → Sem Value) (x y : RV) (st : Store) (b : Bool) : Prop :=
  ∃ rr : R2, OpR X f rr ∧ ∀ φ H u1 u2 Q, RelRV X.K φ H x u1 → RelRV X.K φ H y u2 → StR X.K φ H st → Q (.bl b) H → rr u1 u2 H Q
theorem cmpI_ok {op : CmpOp} {i j : Int} {b : Bool} (h : cmpI op i j = some b) : CmpOk X (compareOp op) (.val (.int i)) (.val (.int j)) st b := by
  have mk : ∀ (g : Int → Int → Bool), OpR X (compareOp op) (rI0 fun i j => .bl (g i j)) → g i j = b → CmpOk X (compareOp op) (.val (.int i)) (.val (.int j)) st b := by
    intro g ho e
    refine ⟨_, ho, fun φ H u1 u2 Q r1 r2 s q => ?_⟩
    rw [RelP.int_inv r1, RelP.int_inv r2]
    refine ⟨i, j, rfl, rfl, ?_⟩
    subst e
    exact q
  cases op with
  | Lt => exact mk _ op_lt (Option.some.inj h)
  | LtE => exact mk _ op_le (Option.some.inj h)
  | Gt => exact mk _ op_gt (Option.some.inj h)
  | GtE => exact mk _ op_ge (Option.some.inj h)
  | Eq =>
    refine ⟨_, op_eq, fun φ H u1 u2 Q r1 r2 s q => ?_⟩
    rw [RelP.int_inv r1, RelP.int_inv r2]
    refine ⟨rfl, ?_⟩
    rw [dec_int, Bool.beq_eq_decide_eq]
    have e := Option.some.inj h
    rw [e]
    exact q
  | NotEq =>
    refine ⟨_, op_ne, fun φ H u1 u2 Q r1 r2 s q => ?_⟩
    rw [RelP.int_inv r1, RelP.int_inv r2]
    refine ⟨rfl, ?_⟩
    rw [dec_int, Bool.beq_eq_decide_eq]
    have e := Option.some.inj h
    rw [e]
    exact q
  | _ => cases h

theorem dp_ints {K : PySem.W.Frag} {φ : List Addr} {H : Hp} : ∀ {xs : List PV} {vs : List V}, xs.all isIntP = true → RelPs K φ H xs vs → ∃ ns : List Int, DpAll K H vs (ns.map PyData.int) ∧ ns.length = xs.length
  | [], _, _, .nil => ⟨[], .nil, rfl⟩
  | x :: xs, _, h, .cons r rs => by
    rw [List.all_cons, Bool.and_eq_true] at h
    obtain ⟨ns, h1, h2⟩ := dp_ints h.2 rs
    cases x with
    | int i => cases r; exact ⟨i :: ns, .cons (.int i) h1, by simp [h2]⟩
    | _ => cases h.1
theorem shaped_ints (ns : List Int) : SeqAt.shaped (.list (ns.map PyData.int)) = true := by
  have h1 : ∀ ns : List Int, PyData.canLayAll0 (ns.map PyData.int) = true := fun ns => by
    induction ns with
    | nil => rfl
    | cons n ns ih => simp [PyData.canLayAll0, PyData.canLay0, ih]
  have h2 : ∀ ns : List Int, PyData.depthAll (ns.map PyData.int) ≤ 1 := fun ns => by
    induction ns with
    | nil => simp [PyData.depthAll]
    | cons n ns ih => simp [PyData.depthAll, PyData.depth]; omega
  unfold SeqAt.shaped
  rw [Bool.and_eq_true]
  refine ⟨by simp [PyData.canLay0, h1], decide_eq_true ?_⟩
  have := h2 ns
  simp [PyData.depth]
  omega
theorem eqv_ints_nil (ns : List Int) : PyData.eqv (.list (ns.map PyData.int)) (.list []) = ns.isEmpty := by
  cases ns <;> simp [PyData.eqv, PyData.eqvAll]
theorem len_empty {α β : Type} {xs : List α} {ys : List β} (h : xs.length = ys.length) : xs.isEmpty = ys.isEmpty := by
  cases xs <;> cases ys <;> simp at h ⊢
theorem isV_ok {x : RV} {y : PV} {c : Bool} (hc : isV x y = some c) : (y = .non ∧ ∀ (K : PySem.W.Frag) φ H u, RelRV K φ H x u → decide (u = .non) = c) ∨ (∃ a b', x = .val (.bl a) ∧ y = .bl b' ∧ decide (a = b') = c) := by
  unfold isV at hc
  split at hc
  · exact .inl ⟨rfl, fun K φ H u r => by cases (Option.some.inj hc); rw [RelP.non_inv r]; rfl⟩
  · exact .inl ⟨rfl, fun K φ H u r => by cases (Option.some.inj hc); rw [RelP.bl_inv r]; rfl⟩
  · exact .inl ⟨rfl, fun K φ H u r => by cases (Option.some.inj hc); rw [RelP.int_inv r]; rfl⟩
  · exact .inl ⟨rfl, fun K φ H u r => by cases (Option.some.inj hc); rw [RelP.str_inv r]; rfl⟩
  · exact .inl ⟨rfl, fun K φ H u r => by cases (Option.some.inj hc); obtain ⟨a, vs, rfl, _⟩ := RelP.tup_inv r; rfl⟩
  · exact .inl ⟨rfl, fun K φ H u r => by cases (Option.some.inj hc); cases r; rfl⟩
  · exact .inl ⟨rfl, fun K φ H u r => by cases (Option.some.inj hc); obtain ⟨a, rfl, _⟩ := RelP.ref_inv r; rfl⟩
  · exact .inr ⟨_, _, rfl, rfl, by rw [← Option.some.inj hc, Bool.beq_eq_decide_eq]⟩
  · cases hc
theorem cmpop_ok {op : CmpOp} {x y : RV} {b : Bool} (hu : X.A.units + 64 < cLine) (h : cmpop op x y st = some b) : CmpOk X (compareOp op) x y st b := by
  unfold cmpop at h
  split at h
  · exact cmpI_ok h
  · rename_i i j
    cases op with
    | Eq =>
      refine ⟨_, op_eq, fun φ H u1 u2 Q r1 r2 s q => ?_⟩
      rw [RelP.str_inv r1, RelP.str_inv r2]
      refine ⟨rfl, ?_⟩
      cases (Option.some.inj h)
      rw [dec_str, Bool.beq_eq_decide_eq]
      exact q
    | NotEq =>
      refine ⟨_, op_ne, fun φ H u1 u2 Q r1 r2 s q => ?_⟩
      rw [RelP.str_inv r1, RelP.str_inv r2]
      refine ⟨rfl, ?_⟩
      cases (Option.some.inj h)
      rw [dec_str, Bool.beq_eq_decide_eq]
      exact q
    | _ => cases h
  · unfold cmpNil at h
    split at h
    · rename_i xs e2
      cases op with
      | Eq =>
        obtain ⟨c, e⟩ := bif_some h
        subst e
        refine ⟨_, op_eqD hu, fun φ H u1 u2 Q r1 r2 s q => ?_⟩
        obtain ⟨p, vs, rfl, hr, hl, _⟩ := items_ok e2 r1 s
        obtain ⟨p2, ws, rfl, hp2, hn2, hr2⟩ := r2
        cases hr2
        obtain ⟨ns, d1, d2⟩ := dp_ints c hr
        refine ⟨_, _, .lst (hl rfl) d1, .lst (.inl (.inl hp2)) .nil, shaped_ints ns, shaped_ints [], ?_⟩
        rw [eqv_ints_nil, len_empty d2]
        exact q
      | NotEq =>
        obtain ⟨c, e⟩ := bif_some h
        subst e
        refine ⟨_, op_neD hu, fun φ H u1 u2 Q r1 r2 s q => ?_⟩
        obtain ⟨p, vs, rfl, hr, hl, _⟩ := items_ok e2 r1 s
        obtain ⟨p2, ws, rfl, hp2, hn2, hr2⟩ := r2
        cases hr2
        obtain ⟨ns, d1, d2⟩ := dp_ints c hr
        refine ⟨_, _, .lst (hl rfl) d1, .lst (.inl (.inl hp2)) .nil, shaped_ints ns, shaped_ints [], ?_⟩
        rw [eqv_ints_nil, len_empty d2]
        exact q
      | _ => cases h
    · cases h
  · cases op with
    | Is =>
      rcases isV_ok h with ⟨rfl, k⟩ | ⟨a, b', rfl, rfl, k⟩
      · refine ⟨_, op_isN, fun φ H u1 u2 Q r1 r2 s q => ?_⟩
        rw [RelP.non_inv r2]
        refine ⟨rfl, ?_⟩
        rw [k _ φ H u1 r1]
        exact q
      · refine ⟨_, op_isBl, fun φ H u1 u2 Q r1 r2 s q => ?_⟩
        rw [RelP.bl_inv r1, RelP.bl_inv r2]
        refine ⟨a, b', rfl, rfl, ?_⟩
        rw [k]
        exact q
    | IsNot =>
      obtain ⟨c, hc, rfl⟩ := Option.map_eq_some_iff.mp h
      rcases isV_ok hc with ⟨rfl, k⟩ | ⟨a, b', rfl, rfl, k⟩
      · refine ⟨_, op_notN, fun φ H u1 u2 Q r1 r2 s q => ?_⟩
        rw [RelP.non_inv r2]
        refine ⟨rfl, ?_⟩
        rw [k _ φ H u1 r1]
        exact q
      · refine ⟨_, op_notBl, fun φ H u1 u2 Q r1 r2 s q => ?_⟩
        rw [RelP.bl_inv r1, RelP.bl_inv r2]
        refine ⟨a, b', rfl, rfl, ?_⟩
        rw [k]
        exact q
    | _ => cases h
  · cases h
/-- truth -/
theorem truth_ok {x : RV} {b : Bool} {K : PySem.W.Frag} {φ : List Addr} {H : Hp} {u : V} (h : truth st x = some b) (r : RelRV K φ H x u) (s : StR K φ H st) : TruV K u H b := by
  have seq : ∀ y, itemsOf st y = itemsOf st x → (itemsOf st y).map (fun p => !p.2.isEmpty) = some b → TruV K u H b := by
    intro y e h
    rw [e] at h
    obtain ⟨⟨l, xs⟩, h1, h2⟩ := Option.map_eq_some_iff.mp h
    obtain ⟨p, vs, rfl, hr, hl, ht⟩ := items_ok h1 r s
    subst h2
    show _ ∨ _
    cases l with
    | true => exact .inl ⟨vs, hl rfl, by rw [hr.empty]⟩
    | false => exact .inr (.inl ⟨vs, (ht rfl).1, by rw [hr.empty]⟩)
  unfold truth at h
  split at h
  · cases (Option.some.inj h); rw [RelP.bl_inv r]; rfl
  · cases (Option.some.inj h); rw [RelP.non_inv r]; rfl
  · cases (Option.some.inj h); rw [RelP.int_inv r]; rfl
  · obtain ⟨c, rfl⟩ := bif_some h
    rw [RelP.str_inv r]
    exact ⟨lim_line (of_decide_eq_true c), rfl⟩
  · exact seq _ rfl h
end
end MI
end
section
set_option Elab.async false
set_option linter.all false
set_option maxRecDepth 100000
set_option maxHeartbeats 4000000
/-! MI4: items, slices, built-in calls, against the layer's rules by values. -/
namespace MI
open PySem PySem.Spec PyProof.Rows L2
section
variable {K : PySem.W.Frag} {φ : List Addr} {H : Hp}
theorem RelPs.atI {xs : List PV} {vs : List V} (h : RelPs K φ H xs vs) {i : Int} {x : PV} (e : L2.atI xs i = some x) : ∃ v, L2.atI vs i = some v ∧ RelP K φ H x v := by
  unfold L2.atI at e ⊢
  obtain ⟨j, h1, h2⟩ := Option.bind_eq_some_iff.mp e
  obtain ⟨v, h3, h4⟩ := h.get h2
  exact ⟨v, by rw [← h.length, h1]; exact h3, h4⟩
theorem RelK.get : ∀ {kvs : List (Key × PV)} {kws : List (Key × V)}, RelK K φ H kvs kws → ∀ {k : Key} {x : PV}, dctGet kvs k = some x → ∃ v, valV kws k = some v ∧ RelP K φ H x v
  | _, _, .nil, k, x, e => by
    have e' : (none : Option PV) = some x := e
    cases e'
  | p :: kvs, q :: kws, .cons ⟨h1, h2⟩ r, k, x, e => by
    unfold dctGet at e
    unfold valV
    rw [List.find?_cons] at e ⊢
    by_cases c : p.1 = k
    · have c2 : q.1 = k := by rw [← h1]; exact c
      rw [decide_eq_true c] at e
      rw [decide_eq_true c2]
      have e' : some p.2 = some x := e
      cases e'
      exact ⟨q.2, rfl, h2⟩
    · have c2 : ¬ q.1 = k := by rw [← h1]; exact c
      rw [decide_eq_false c] at e
      rw [decide_eq_false c2]
      exact RelK.get r (k := k) (x := x) e
theorem RelK.length {kvs : List (Key × PV)} {kws : List (Key × V)} (h : RelK K φ H kvs kws) : kvs.length = kws.length := Paired.length h
theorem RelK.any {k : Key} : ∀ {kvs : List (Key × PV)} {kws : List (Key × V)}, RelK K φ H kvs kws → (kvs.any fun kv => decide (kv.1 = k)) = kws.any fun kv => decide (kv.1 = k)
  | _, _, .nil => rfl
  | _, _, .cons ⟨h1, h2⟩ r => by
    rw [List.any_cons, List.any_cons, RelK.any r, h1]
end
theorem putK_eq (kvs : List (Key × V)) (k : Key) (v : V) : putK kvs k v = if (kvs.any fun kv => decide (kv.1 = k)) = true then kvs.map (fun kv => if kv.1 = k then (kv.1, v) else kv) else kvs ++ [(k, v)] := rfl
section
variable {K : PySem.W.Frag} {φ : List Addr} {H : Hp}
theorem RelK.put {kvs : List (Key × PV)} {kws : List (Key × V)} (h : RelK K φ H kvs kws) {k : Key} {x : PV} {v : V} (r : RelP K φ H x v) : RelK K φ H (dctPut kvs k x) (putK kws k v) := by
  rw [putK_eq]
  unfold dctPut
  rw [h.any]
  by_cases c : (kws.any fun kv => decide (kv.1 = k)) = true
  · rw [if_pos c, if_pos c]
    clear c
    induction h with
    | nil => exact .nil
    | @cons p q kvs kws h1 h2 ih =>
      refine .cons ?_ ih
      obtain ⟨e, r2⟩ := h1
      by_cases c : p.1 = k
      · dsimp only
        rw [if_pos c, if_pos (by rw [← e]; exact c)]
        exact ⟨e, r⟩
      · dsimp only
        rw [if_neg c, if_neg (by rw [← e]; exact c)]
        exact ⟨e, r2⟩
  · rw [if_neg c, if_neg c]
    have app : ∀ {a b : List (Key × PV)} {a' b' : List (Key × V)}, RelK K φ H a a' → RelK K φ H b b' → RelK K φ H (a ++ b) (a' ++ b') := by
      intro a b a' b' h1 h2
      induction h1 with
      | nil => exact h2
      | cons x y ih => exact .cons x ih
    exact app h (.cons ⟨rfl, r⟩ .nil)
end

/-! ### subscripts -/
section
variable {X : Cx} {st : Store}
theorem plain_ix {b : Expr} (h : notSlice b = true) : PlainIx b := fun o i => by
  cases b <;> first | rfl | cases h
theorem no_sl {b : Expr} (h : notSlice b = true) : NoSl b := fun o i => by
  cases b <;> first | rfl | cases h
def IxOk (X : Cx) (a b : Expr) (pos : Pos) (x y : RV) (st : Store) (z : PV) : Prop :=
  ∃ rr : R2, (∀ ta tb, PE X a ta → PE X b tb → PE X (.Subscript a b pos) (tOp rr ta tb)) ∧ ∀ φ H u1 u2 Q, RelRV X.K φ H x u1 → RelRV X.K φ H y u2 → StR X.K φ H st → PostV X.K φ H (.val z) st Q → rr u1 u2 H Q
theorem getIx_ok {a b : Expr} {pos : Pos} {x y : RV} {z : PV} (hb : notSlice b = true) (hu : X.A.units + 1 < cLine) (h : getIx x y st = some z) : IxOk X a b pos x y st z := by
  have seq : ∀ i, y = .val (.int i) → ((itemsOf st x).bind fun p => atI p.2 i) = some z → IxOk X a b pos x y st z := by
    intro i ey h'
    subst ey
    obtain ⟨⟨l, xs⟩, h1, h2⟩ := Option.bind_eq_some_iff.mp h'
    cases l with
    | true =>
      refine ⟨_, fun ta tb ha hb' => pe_ix ix_list ha hb' (plain_ix hb), fun φ H u1 u2 Q r1 r2 s q => ?_⟩
      obtain ⟨p, vs, rfl, hr, hl, _⟩ := items_ok h1 r1 s
      rw [RelP.int_inv r2]
      obtain ⟨v, h3, h4⟩ := hr.atI h2
      exact ⟨p, vs, i, v, rfl, rfl, hl rfl, h3, q.now s h4⟩
    | false =>
      refine ⟨_, fun ta tb ha hb' => pe_ix ix_tup ha hb' (plain_ix hb), fun φ H u1 u2 Q r1 r2 s q => ?_⟩
      obtain ⟨p, vs, rfl, hr, _, ht⟩ := items_ok h1 r1 s
      rw [RelP.int_inv r2]
      obtain ⟨v, h3, h4⟩ := hr.atI h2
      exact ⟨p, vs, i, v, rfl, rfl, (ht rfl).1, h3, q.now s h4⟩
  unfold getIx at h
  split at h
  · rename_i n s
    split at h
    · rename_i kvs e
      refine ⟨fun x y H Q => ∃ a v, x = .ref a ∧ DGet H a y (some v) ∧ Q v H, fun ta tb ha hb' => pe_dget hu ha hb' (no_sl hb), fun φ H u1 u2 Q r1 r2 S q => ?_⟩
      obtain ⟨p, rfl, hp⟩ := RelP.ref_inv r1
      rw [RelP.str_inv r2]
      obtain ⟨kws, h1, h2⟩ := S.at_ n _ p e hp
      obtain ⟨v, h3, h4⟩ := h2.get h
      refine ⟨p, v, rfl, ?_, q.now S h4⟩
      have := DGet.k (k := .inr s) h1
      rw [h3] at this
      exact this
    · cases h
  · exact seq _ rfl h
  · cases h
/-- slices -/
def SlOk (X : Cx) (x : RV) (lo hi : Option Int) (st : Store) (r : RV) : Prop :=
  ∃ rr : V → Option Int → Option Int → Hp → VK → Prop, SlR X rr ∧ ∀ φ H u Q, RelRV X.K φ H x u → StR X.K φ H st → PostV X.K φ H r st Q → rr u lo hi H Q
theorem getSl_ok {x r : RV} {lo hi : Option Int} (h : getSl x lo hi st = some r) : SlOk X x lo hi st r := by
  obtain ⟨⟨l, xs⟩, h1, h2⟩ := Option.map_eq_some_iff.mp h
  subst h2
  cases l with
  | true =>
    refine ⟨_, sl_list, fun φ H u Q r1 s q => ?_⟩
    obtain ⟨p, vs, rfl, hr, hl, _⟩ := items_ok h1 r1 s
    exact ⟨p, vs, rfl, hl rfl, fun p hp => q.lst s (hr.cut lo hi) hp⟩
  | false =>
    refine ⟨_, sl_tupA, fun φ H u Q r1 s q => ?_⟩
    obtain ⟨p, vs, rfl, hr, _, ht⟩ := items_ok h1 r1 s
    refine ⟨p, vs, rfl, (ht rfl).1, fun e => ?_, fun _ p hp => q.tup s (hr.cut lo hi) hp⟩
    have ec : cutP xs lo hi = xs := by
      unfold cutP
      rw [hr.length, e.1, e.2, ← hr.length]
      simp
    have q' : PostV X.K φ H (.val (.tup xs)) st Q := by
      have q2 : PostV X.K φ H (.val (.tup (cutP xs lo hi))) st Q := q
      rw [ec] at q2
      exact q2
    exact q'.now s (.tup (ht rfl).1 hr)

/-! ### built-in calls -/
inductive RelRVs (K : PySem.W.Frag) (φ : List Addr) (H : Hp) : List RV → List V → Prop
  | nil : RelRVs K φ H [] []
  | cons {x : RV} {xs : List RV} {v : V} {vs : List V} : RelRV K φ H x v → RelRVs K φ H xs vs → RelRVs K φ H (x :: xs) (v :: vs)
theorem RelRVs.mono {K : PySem.W.Frag} {φ φ' : List Addr} {H H' : Hp} (e : Evo φ φ' H H') : ∀ {xs : List RV} {vs : List V}, RelRVs K φ H xs vs → RelRVs K φ' H' xs vs
  | _, _, .nil => .nil
  | _, _, .cons r rs => .cons (r.mono e) (RelRVs.mono e rs)
def CallOk (X : Cx) (f : Value) (xs : List RV) (st : Store) (r : RV) : Prop :=
  ∃ rr : List V → Hp → VK → Prop, CallR X f rr ∧ ∀ φ H us Q, RelRVs X.K φ H xs us → StR X.K φ H st → PostV X.K φ H r st Q → rr us H Q
def biVal : Bi → Str × Value
  | .len => ("len", .builtin "len")
  | .isinst => ("isinstance", .builtin "isinstance")
  | .all => ("all", .builtin "all")
  | .any => ("any", .builtin "any")
  | .max2 => ("max", .builtin "max")
  | .min2 => ("min", .builtin "min")
  | .int1 => ("int", .type "int")
  | .tuple1 => ("tuple", .type "tuple")
  | .list1 => ("list", .type "list")
  | .range => ("range", .type "range")
  | .zip => ("zip", .type "zip")
  | .enum => ("enumerate", .type "enumerate")
  | .abs => ("abs", .builtin "abs")
theorem bools_ok {K : PySem.W.Frag} {φ : List Addr} {H : Hp} : ∀ {xs : List PV} {vs : List V} {bs : List Bool}, bools xs = some bs → RelPs K φ H xs vs → vs = bs.map V.bl
  | [], _, _, h, .nil => by cases (Option.some.inj h); rfl
  | x :: xs, _, bs, h, .cons r rs => by
    cases x with
    | bl b =>
      obtain ⟨bs', h1, h2⟩ := Option.map_eq_some_iff.mp h
      subst h2
      rw [bools_ok h1 rs, RelP.bl_inv r]
      rfl
    | _ => cases h
theorem tyx_of {K : PySem.W.Frag} {φ : List Addr} {H : Hp} {x : RV} {u : V} {a : String} (h : typeName st x = some a) (r : RelRV K φ H x u) (s : StR K φ H st) : TyX K H u (.type a) := by
  have tupT : ∀ {p : Addr} {vs : List V}, SqT K H p vs → TyX K H (.ref p) (.type "tuple") := by
    intro p vs h
    rcases h with (h | ⟨o, h⟩) | ⟨o, its, n, h1, h2, _⟩
    · exact .base (.tup h)
    · exact .fTuple h
    · exact .kTuple h1 h2
  have lstT : ∀ {p : Addr} {vs : List V}, SqL K H p vs → TyX K H (.ref p) (.type "list") := by
    intro p vs h
    rcases h with (h | ⟨o, h⟩) | ⟨o, its, n, h1, h2, _⟩
    · exact .base (.lst h)
    · exact .base (.frz h)
    · exact .kList h1 h2
  cases x with
  | new xs =>
    cases h
    obtain ⟨p, vs, rfl, h1, _⟩ := r
    exact .base (.lst h1)
  | val v =>
    cases v with
    | non => cases h; cases r; exact .base .non
    | bl b => cases h; cases r; exact .base (.bl _)
    | int b => cases h; cases r; exact .base (.int _)
    | str b => cases h; cases r; exact .base (.str _)
    | ty n => cases h
    | tup xs =>
      cases h
      obtain ⟨p, vs, rfl, h1, _⟩ := RelP.tup_inv r
      exact tupT h1
    | frz xs =>
      cases h
      cases r with
      | frz h1 _ =>
        rcases h1 with ⟨o, q⟩ | q
        · exact .base (.frz q)
        · exact lstT (q H)
    | ref n =>
      obtain ⟨p, rfl, hp⟩ := RelP.ref_inv r
      have h' : (match st[n]? with | some (.lst _) => some "list" | some (.dct _) => some "dict" | _ => none) = some a := h
      cases q : st[n]? with
      | none => rw [q] at h'; cases h'
      | some c =>
        rw [q] at h'
        have z := s.at_ n c p q hp
        cases c with
        | lst xs => cases h'; obtain ⟨vs, h1, _⟩ := z; exact .base (.lst h1)
        | dct xs => cases h'; obtain ⟨vs, h1, _⟩ := z; exact .base (.dK h1)
def tyNames : List String := ["NoneType", "bool", "int", "str", "tuple", "list", "dict"]
theorem typeName_mem {x : RV} {a : String} (h : typeName st x = some a) : a ∈ tyNames := by
  unfold typeName at h
  split at h
  any_goals (cases (Option.some.inj h); decide)
  · split at h
    any_goals (cases (Option.some.inj h); decide)
    cases h
  · cases h
theorem subTy_kit : ∀ a ∈ tyNames, ∀ b ∈ ["int", "bool", "str", "tuple", "list", "dict"], (subTy a b).isSome = true ∧ kitB a b = subTy a b := by decide +kernel
theorem subTy_mem {a b : String} {r : Bool} (h : subTy a b = some r) : b ∈ ["int", "bool", "str", "tuple", "list", "dict"] := by
  unfold subTy at h
  split at h
  any_goals decide
  cases h
theorem biCall_ok {b : Bi} {xs : List RV} {r : RV} (hc : X.calm = true) (h : biCall b xs st = some r) : CallOk X (biVal b).2 xs st r := by
  unfold biCall at h
  split at h
  · obtain ⟨⟨l, ys⟩, h1, rfl⟩ := Option.map_eq_some_iff.mp h
    refine ⟨_, call_len_seq, fun φ H us Q rs s q => ?_⟩
    cases rs with
    | cons r1 rs =>
      cases rs
      obtain ⟨p, vs, rfl, hr, hl, ht⟩ := items_ok h1 r1 s
      refine ⟨p, vs, rfl, ?_, ?_⟩
      · cases l with
        | true => exact .inl (hl rfl)
        | false => exact .inr (ht rfl).1
      · rw [← hr.length]
        exact q.now s (.int _)
  · obtain ⟨a, h1, h2⟩ := Option.bind_eq_some_iff.mp h
    obtain ⟨c, h3, rfl⟩ := Option.map_eq_some_iff.mp h2
    refine ⟨_, call_isi, fun φ H us Q rs s q => ?_⟩
    cases rs with
    | cons r1 rs =>
      cases rs with
      | cons r2 rs =>
        cases rs
        cases r2
        refine ⟨_, _, _, _, c, rfl, .ty _, tyx_of h1 r1 s, kit_ty ?_, q.now s (.bl _)⟩
        rw [(subTy_kit a (typeName_mem h1) _ (subTy_mem h3)).2]
        exact h3
  · obtain ⟨bs, h1, rfl⟩ := Option.map_eq_some_iff.mp h
    refine ⟨_, cr_all hc, fun φ H us Q rs s q => ?_⟩
    cases rs with
    | cons r1 rs =>
      cases rs
      obtain ⟨p, vs, rfl, hp, hn, hr⟩ := r1
      rw [bools_ok h1 hr] at hp
      exact ⟨p, bs, rfl, .inl (.inl hp), q.now s (.bl _)⟩
  · obtain ⟨bs, h1, rfl⟩ := Option.map_eq_some_iff.mp h
    refine ⟨_, cr_any hc, fun φ H us Q rs s q => ?_⟩
    cases rs with
    | cons r1 rs =>
      cases rs
      obtain ⟨p, vs, rfl, hp, hn, hr⟩ := r1
      rw [bools_ok h1 hr] at hp
      exact ⟨p, bs, rfl, .inl (.inl hp), q.now s (.bl _)⟩
  · rename_i i j
    cases (Option.some.inj h)
    refine ⟨_, call_max2 hc, fun φ H us Q rs s q => ?_⟩
    cases rs with
    | cons r1 rs =>
      cases rs with
      | cons r2 rs =>
        cases rs
        rw [RelP.int_inv r1, RelP.int_inv r2]
        refine ⟨i, j, rfl, ?_⟩
        have z := q.now s (.int _)
        rw [Bool.cond_decide] at z
        exact z
  · rename_i i j
    cases (Option.some.inj h)
    refine ⟨_, call_min2 hc, fun φ H us Q rs s q => ?_⟩
    cases rs with
    | cons r1 rs =>
      cases rs with
      | cons r2 rs =>
        cases rs
        rw [RelP.int_inv r1, RelP.int_inv r2]
        refine ⟨i, j, rfl, ?_⟩
        have z := q.now s (.int _)
        rw [Bool.cond_decide] at z
        exact z
  · rename_i i
    cases (Option.some.inj h)
    refine ⟨_, call_int1, fun φ H us Q rs s q => ?_⟩
    cases rs with
    | cons r1 rs =>
      cases rs
      rw [RelP.int_inv r1]
      exact .inl ⟨i, rfl, q.now s (.int _)⟩
  · rename_i i
    cases (Option.some.inj h)
    refine ⟨_, call_abs, fun φ H us Q rs s q => ?_⟩
    cases rs with
    | cons r1 rs =>
      cases rs
      rw [RelP.int_inv r1]
      refine ⟨i, rfl, ?_⟩
      have z := q.now s (.int _)
      rw [Bool.cond_decide] at z
      exact z
  · obtain ⟨⟨l, ys⟩, h1, rfl⟩ := Option.map_eq_some_iff.mp h
    refine ⟨_, call_tuple_of, fun φ H us Q rs s q => ?_⟩
    cases rs with
    | cons r1 rs =>
      cases rs
      obtain ⟨p, vs, rfl, hr, hl, ht⟩ := items_ok h1 r1 s
      refine ⟨p, vs, rfl, ?_⟩
      cases l with
      | true => exact .inl ⟨hl rfl, fun p hp => q.tup s hr hp⟩
      | false => exact .inr ⟨(ht rfl).1, q.now s (.tup (ht rfl).1 hr)⟩
  · obtain ⟨⟨l, ys⟩, h1, rfl⟩ := Option.map_eq_some_iff.mp h
    refine ⟨_, call_list_of, fun φ H us Q rs s q => ?_⟩
    cases rs with
    | cons r1 rs =>
      cases rs
      obtain ⟨p, vs, rfl, hr, hl, ht⟩ := items_ok h1 r1 s
      refine ⟨p, vs, rfl, ?_, fun p hp => q.lst s hr hp⟩
      cases l with
      | true => exact .inl (hl rfl)
      | false => exact .inr (ht rfl).1
  · cases h
end
end MI
end
section
set_option Elab.async false
set_option linter.all false
set_option maxRecDepth 100000
set_option maxHeartbeats 4000000
/-! MI5: expressions of the text, by what the own interpreter makes of their inner form. -/
namespace MI
open PySem PySem.Spec PyProof.Rows L2

structure SV (K : PySem.W.Frag) (φ : List Addr) (σ : L2.St) (H : Hp) (env : Env) (st : Store) : Prop where
  at_ : ∀ (i : Nat) (v : PV), env[i]? = some (some v) → ∃ u, σ[i]? = some (some u) ∧ RelP K φ H v u
  st : StR K φ H st
  len : σ.length = env.length
theorem SV.mono {K : PySem.W.Frag} {φ φ' : List Addr} {σ : L2.St} {H H' : Hp} {env : Env} {st st' : Store} (h : SV K φ σ H env st) (e : Evo φ φ' H H') (s : StR K φ' H' st') : SV K φ' σ H' env st' :=
  ⟨fun i v q => let ⟨u, h1, h2⟩ := h.at_ i v q; ⟨u, h1, h2.mono e⟩, s, h.len⟩
def tV (K : PySem.W.Frag) (env : Env) (st : Store) (rv : RV) (st' : Store) : TE := fun σ H Q => ∃ φ, SV K φ σ H env st ∧ PostV K φ H rv st' Q
def tE (K : PySem.W.Frag) (env : Env) (st : Store) (v : PV) (st' : Store) : TE := fun σ H Q => ∃ φ, SV K φ σ H env st ∧ PostE K φ H v st' Q
def tT (K : PySem.W.Frag) (env : Env) (st : Store) (b : Bool) (st' : Store) : TT := fun σ H Q => ∃ φ, SV K φ σ H env st ∧ ∀ φ' H', Evo φ φ' H H' → StR K φ' H' st' → Q b H'
def tAs (K : PySem.W.Frag) (env : Env) (st : Store) (vs : List PV) (st' : Store) : TA := fun σ H Q => ∃ φ, SV K φ σ H env st ∧ ∀ φ' H' us, Evo φ φ' H H' → StR K φ' H' st' → RelPs K φ' H' vs us → Q us H'
def tRs (K : PySem.W.Frag) (env : Env) (st : Store) (vs : List RV) (st' : Store) : TA := fun σ H Q => ∃ φ, SV K φ σ H env st ∧ ∀ φ' H' us, Evo φ φ' H H' → StR K φ' H' st' → RelRVs K φ' H' vs us → Q us H'
theorem PE.weak {X : Cx} {e : Expr} {t t' : TE} (h : PE X e t) (w : ∀ σ H Q, t' σ H Q → t σ H Q) : PE X e t' := ⟨fun pins s σ H Q I q => h.run pins s σ H Q I (w σ H Q q)⟩
theorem PT.weak {X : Cx} {e : Expr} {t t' : TT} (h : PT X e t) (w : ∀ σ H Q, t' σ H Q → t σ H Q) : PT X e t' := ⟨fun pins s σ H Q I q => h.run pins s σ H Q I (w σ H Q q)⟩
theorem PA.weak {X : Cx} {e : List Expr} {t t' : TA} (h : PA X e t) (w : ∀ σ H Q, t' σ H Q → t σ H Q) : PA X e t' := ⟨fun pos pins s σ H Q I q => h.run pos pins s σ H Q I (w σ H Q q)⟩
theorem pe_no {X : Cx} {e : Expr} : PE X e (fun _ _ _ => False) := ⟨fun _ _ _ _ _ _ h => h.elim⟩
theorem pt_no {X : Cx} {e : Expr} : PT X e (fun _ _ _ => False) := ⟨fun _ _ _ _ _ _ h => h.elim⟩
theorem pe_alloc {X : Cx} {e : Expr} {env : Env} {st : Store} {r : RV × Store} (h : PE X e (tV X.K env st r.1 r.2)) : PE X e (tE X.K env st (allocR r).1 (allocR r).2) :=
  PE.weak h fun σ H Q ⟨φ, sv, q⟩ => ⟨φ, sv, PostE.alloc q⟩

/-! ### the row of arguments -/
theorem star_cons {e : Expr} {es : List Expr} {env : PySem.Env} (h : notStar e = true) : starEach (e :: es) env = (false, eval e env) :: starEach es env := by
  cases e <;> first | rfl | cases h
theorem star_any {env : PySem.Env} {pos : Pos} : ∀ {es : List Expr}, es.all notStar = true → (backTo pos (starEach es env)).any (·.1) = false
  | [], _ => rfl
  | e :: es, h => by
    rw [List.all_cons, Bool.and_eq_true] at h
    rw [star_cons h.1]
    show (false || (backTo pos (starEach es env)).any (·.1)) = false
    rw [star_any h.2]
    rfl
theorem star_all {env : PySem.Env} {pos : Pos} : ∀ {es : List Expr}, es.all notStar = true → (backTo pos (starEach es env)).all (fun x => !x.1) = true
  | [], _ => rfl
  | e :: es, h => by
    rw [List.all_cons, Bool.and_eq_true] at h
    rw [star_cons h.1]
    show (true && (backTo pos (starEach es env)).all (fun x => !x.1)) = true
    rw [star_all h.2]
    rfl
/-! ### the judgement's shape -/
/-- what a context must be for a piece of the text -/
def gperm {α : Type} (z : α) (pm : List Nat) (us ws : List α) : List α := pm.map fun i => (us ++ ws).getD i z
def spF (K : PySem.W.Frag) (G : List Fn) (d j : Nat) : Sp := fun vs H Q _ => ∃ n φ args st v st', RelPs K φ H args vs ∧ StR K φ H st ∧ (run G n).C d j args st = some (v, st') ∧ PostE K φ H v st' Q
structure XOk (G : List Fn) (c : Cc) (d : Nat) (X : Cx) : Prop where
  N : X.N = c.N
  sc : X.env.scope = c.sc
  nd : c.N.Nodup
  calm : X.calm = true
  room : Room d X.A
  nodbg : ∀ x ∈ c.N, (x == ("__debug__" : Str)) = false ∧ (x == ("__classdict__" : Str)) = false
  tys : ∀ x n, c.tys.lookup x = some n → X.mg x = none ∧ bootBuiltins x = some (.type n) ∧ x ≠ "__name__" ∧ (x == ("__debug__" : Str)) = false
  csts : ∀ x z, c.csts.lookup x = some z → (∃ t, X.mg x = some (.int z t)) ∧ (x == ("__debug__" : Str)) = false
  bis : ∀ x b, c.bis.lookup x = some b → x = (biVal b).1 ∧ X.mg x = none ∧ bootBuiltins x = some (biVal b).2 ∧ x ≠ "__name__" ∧ (x == ("__debug__" : Str)) = false
  fns : ∀ (j : Nat) x ps, c.F[j]? = some (x, ps) → ∃ f fd, X.mg x = some (.ref f) ∧ PySem.W.keepIn X.K (.ref f) = true ∧ Binds X.K fd ps [] ∧ FnOk X.prog X.w X.K X.mg X.base CX0 d f fd ps (spF X.K G d j) ∧ (x == ("__debug__" : Str)) = false ∧
    ∀ ks pm, (j, ks, pm) ∈ c.KF → KBn X.K fd ps (ps.length - ks.length) ks (gperm .none pm) (gperm .non pm)
theorem XOk.un {G : List Fn} {c : Cc} {d : Nat} {X : Cx} (o : XOk G c d X) : X.A.units + 64 < cLine := o.room.units
theorem XOk.un1 {G : List Fn} {c : Cc} {d : Nat} {X : Cx} (o : XOk G c d X) : X.A.units + 1 < cLine := by have := o.room.units; omega
def OkV (G : List Fn) (V : Nat → IE → Env → Store → Option (RV × Store)) : Prop :=
  ∀ k c d X e env st rv st', XOk G c d X → V d (compE k c e) env st = some (rv, st') → PE X e (tV X.K env st rv st')
def OkT (G : List Fn) (T : Nat → IE → Env → Store → Option (Bool × Store)) : Prop :=
  ∀ j k c d X e env st b st', XOk G c d X → T d (testE j (compE k c) e) env st = some (b, st') → PT X e (tT X.K env st b st')

section
variable {G : List Fn} {fV : Nat → IE → Env → Store → Option (RV × Store)} {fT : Nat → IE → Env → Store → Option (Bool × Store)} {k d n : Nat} {c : Cc} {X : Cx} {env : Env} {st st' : Store}
theorem pa_E (hV : OkV G fV) (o : XOk G c d X) : ∀ {es : List Expr} {st st' : Store} {vs : List PV}, es.all notStar = true → evL (evE fun e s => fV d e env s) (es.map (compE k c)) st = some (vs, st') → PA X es (tAs X.K env st vs st')
  | [], st, st', vs, _, h => by
    cases (Option.some.inj h)
    exact PA.weak pa_nil fun σ H Q ⟨φ, sv, q⟩ => q φ H [] (.refl _ _) sv.st .nil
  | e :: es, st, st', vs, hs, h => by
    rw [List.all_cons, Bool.and_eq_true] at hs
    obtain ⟨⟨v, st1⟩, h1, h2⟩ := Option.bind_eq_some_iff.mp h
    obtain ⟨⟨vs2, st2⟩, h3, h4⟩ := Option.bind_eq_some_iff.mp h2
    cases (Option.some.inj h4)
    obtain ⟨r, h5, h6⟩ := Option.map_eq_some_iff.mp h1
    have p1 := pe_alloc (r := r) (hV k c d X e env st r.1 r.2 o h5)
    rw [h6] at p1
    refine PA.weak (pa_cons p1 (pa_E hV o hs.2 h3) (star_cons hs.1)) fun σ H Q ⟨φ, sv, q⟩ => ?_
    refine ⟨φ, sv, fun φ1 H1 u1 e1 s1 r1 => ⟨φ1, sv.mono e1 s1, fun φ2 H2 us e2 s2 r2 => ?_⟩⟩
    exact q φ2 H2 _ (e1.trans e2) s2 (.cons (r1.mono e2) r2)
theorem pa_V (hV : OkV G fV) (o : XOk G c d X) : ∀ {es : List Expr} {st st' : Store} {vs : List RV}, es.all notStar = true → evL (fun e s => fV d e env s) (es.map (compE k c)) st = some (vs, st') → PA X es (tRs X.K env st vs st')
  | [], st, st', vs, _, h => by
    cases (Option.some.inj h)
    exact PA.weak pa_nil fun σ H Q ⟨φ, sv, q⟩ => q φ H [] (.refl _ _) sv.st .nil
  | e :: es, st, st', vs, hs, h => by
    rw [List.all_cons, Bool.and_eq_true] at hs
    obtain ⟨⟨v, st1⟩, h1, h2⟩ := Option.bind_eq_some_iff.mp h
    obtain ⟨⟨vs2, st2⟩, h3, h4⟩ := Option.bind_eq_some_iff.mp h2
    cases (Option.some.inj h4)
    refine PA.weak (pa_cons (hV k c d X e env st v st1 o h1) (pa_V hV o hs.2 h3) (star_cons hs.1)) fun σ H Q ⟨φ, sv, q⟩ => ?_
    refine ⟨φ, sv, fun φ1 H1 u1 e1 s1 r1 f1 => ⟨φ1, sv.mono e1 s1, fun φ2 H2 us e2 s2 r2 => ?_⟩⟩
    exact q φ2 H2 _ (e1.trans e2) s2 (.cons (r1.mono e2) r2)
theorem slot_get {N : List Str} {x : Str} {i : Nat} (h : slotOf N x = some i) : N[i]? = some x := by
  unfold slotOf at h
  obtain ⟨h1, h2, _⟩ := List.findIdx?_eq_some_iff_getElem.mp h
  rw [List.getElem?_eq_getElem h1]
  exact congrArg some (of_decide_eq_true h2)
theorem vis_of {sc : Scope} {x : Str} (h : visB sc x = true) : Vis sc x := by
  unfold visB at h
  unfold Vis
  split at h <;> simp_all
theorem loc_of {sc : Scope} {x : Str} (h : locB sc x = true) : L2.Loc sc x := by
  unfold locB at h
  unfold L2.Loc
  split at h <;> simp_all
theorem glo_of {sc : Scope} {x : Str} (h : gloB sc x = true) : sc.names.lookup x = some .globalImplicit := by
  unfold gloB at h
  split at h <;> simp_all
theorem v_name (o : XOk G c d X) {x : Str} {p : Pos} {R : Rec} {rv : RV} (h : stepV n R d (compE (k + 1) c (.Name x p)) env st = some (rv, st')) : PE X (.Name x p) (tV X.K env st rv st') := by
  have e : compE (k + 1) c (.Name x p) = bif visB c.sc x then (match slotOf c.N x with
        | some i => .var i
        | none => .never)
      else bif gloB c.sc x then (match c.tys.lookup x with
        | some n => .ty n
        | none => match c.csts.lookup x with
          | some z => .glob z
          | none => .never)
      else .never := rfl
  rw [e] at h
  cases hv : visB c.sc x with
  | true =>
    rw [hv] at h
    cases hs : slotOf c.N x with
    | none => rw [hs] at h; cases h
    | some i =>
      rw [hs] at h
      have h' : (match env[i]? with | some (some v) => some (RV.val v, st) | _ => none) = some (rv, st') := h
      have hN := slot_get hs
      have nd := o.nodbg x (List.mem_of_getElem? hN)
      cases q : env[i]? with
      | none => rw [q] at h'; cases h'
      | some ov =>
        cases ov with
        | none => rw [q] at h'; cases h'
        | some v =>
          rw [q] at h'
          cases (Option.some.inj h')
          refine PE.weak (pe_var (i := i) (by rw [o.N]; exact hN) (by rw [o.sc]; exact vis_of hv) nd.1 nd.2) fun σ H Q ⟨φ, sv, q2⟩ => ?_
          obtain ⟨u, h1, h2⟩ := sv.at_ i v q
          exact ⟨u, h1, q2.now sv.st h2⟩
  | false =>
    rw [hv] at h
    cases hg : gloB c.sc x with
    | false => rw [hg] at h; cases h
    | true =>
      rw [hg] at h
      have gl : Gl X x := by
        show X.env.scope.names.lookup x = _
        rw [o.sc]
        exact glo_of hg
      cases ht : c.tys.lookup x with
      | some n =>
        rw [ht] at h
        cases (Option.some.inj h)
        obtain ⟨h1, h2, h3, h4⟩ := o.tys x n ht
        exact PE.weak (pe_bltn (v := .ty n) gl h1 h2 rfl h3 h4) fun σ H Q ⟨φ, sv, q2⟩ => q2.now sv.st (.ty n)
      | none =>
        rw [ht] at h
        cases hc : c.csts.lookup x with
        | none => rw [hc] at h; cases h
        | some z =>
          rw [hc] at h
          cases (Option.some.inj h)
          obtain ⟨⟨t, h1⟩, h2⟩ := o.csts x z hc
          exact PE.weak (pe_glob (v := .int z) gl h1 ⟨t, rfl⟩ h2) fun σ H Q ⟨φ, sv, q2⟩ => q2.now sv.st (.int z)
theorem v_lit {l : Lit} {e : Expr} {t : V} (hp : PE X e (tC t)) (hr : ∀ K φ H, RelP K φ H (litV l) t) : PE X e (tV X.K env st (.val (litV l)) st) :=
  PE.weak hp fun σ H Q ⟨φ, sv, q⟩ => q.now sv.st (hr _ _ _)
theorem v_bin (hV : OkV G fV) (o : XOk G c d X) {a b : Expr} {op : Operator} {p : Pos} {x y r : RV} {st1 st2 : Store} (h1 : fV d (compE k c a) env st = some (x, st1)) (h2 : fV d (compE k c b) env st1 = some (y, st2)) (h3 : binop op x y st2 = some r) :
    PE X (.BinOp a op b p) (tV X.K env st r st2) := by
  obtain ⟨rr, ho, hr⟩ := binop_ok (X := X) h3
  refine PE.weak (pe_op ho (hV k c d X a env st x st1 o h1) (hV k c d X b env st1 y st2 o h2)) fun σ H Q ⟨φ, sv, q⟩ => ?_
  refine ⟨φ, sv, fun φ1 H1 u1 e1 s1 r1 f1 => ⟨φ1, sv.mono e1 s1, fun φ2 H2 u2 e2 s2 r2 f2 => ?_⟩⟩
  exact hr φ2 H2 u1 u2 Q (r1.mono e2) r2 s2 (q.step (e1.trans e2))
theorem v_cmp (hV : OkV G fV) (o : XOk G c d X) {a b : Expr} {op : CmpOp} {p : Pos} {x y : RV} {r : Bool} {st1 st2 : Store} (hb : notSet b = true) (h1 : fV d (compE k c a) env st = some (x, st1)) (h2 : fV d (compE k c b) env st1 = some (y, st2)) (h3 : cmpop op x y st2 = some r) :
    PE X (.Compare a [op] [b] p) (tV X.K env st (.val (.bl r)) st2) := by
  obtain ⟨rr, ho, hr⟩ := cmpop_ok (X := X) o.un h3
  refine PE.weak (pe_cmpR ho (hV k c d X a env st x st1 o h1) (hV k c d X b env st1 y st2 o h2) (by cases b <;> first | rfl | cases hb)) fun σ H Q ⟨φ, sv, q⟩ => ?_
  refine ⟨φ, sv, fun φ1 H1 u1 e1 s1 r1 f1 => ⟨φ1, sv.mono e1 s1, fun φ2 H2 u2 e2 s2 r2 f2 => ?_⟩⟩
  exact hr φ2 H2 u1 u2 Q (r1.mono e2) r2 s2 ((q.step (e1.trans e2)).now s2 (.bl r))
theorem t_cmp (hV : OkV G fV) (o : XOk G c d X) {a b : Expr} {op : CmpOp} {p : Pos} {x y : RV} {r : Bool} {st1 st2 : Store} (hb : notSet b = true) (h1 : fV d (compE k c a) env st = some (x, st1)) (h2 : fV d (compE k c b) env st1 = some (y, st2)) (h3 : cmpop op x y st2 = some r) :
    PT X (.Compare a [op] [b] p) (tT X.K env st r st2) := by
  obtain ⟨rr, ho, hr⟩ := cmpop_ok (X := X) o.un h3
  refine PT.weak (pt_cmpR ho (hV k c d X a env st x st1 o h1) (hV k c d X b env st1 y st2 o h2) (by cases b <;> first | rfl | cases hb)) fun σ H Q ⟨φ, sv, q⟩ => ?_
  refine ⟨φ, sv, fun φ1 H1 u1 e1 s1 r1 f1 => ⟨φ1, sv.mono e1 s1, fun φ2 H2 u2 e2 s2 r2 f2 => ?_⟩⟩
  exact hr φ2 H2 u1 u2 _ (r1.mono e2) r2 s2 ⟨r, rfl, q φ2 H2 (e1.trans e2) s2⟩
theorem marks2 {o1 o2 : CmpOp} {b c : Expr} (hb : notSet b = true) (hc : notSet c = true) : lastMarks [o1, o2] [b, c] = false := by
  show behindInMarks o2 c = false
  cases c <;> first | rfl | cases hc
theorem opr_no {f : Value → Value → Sem Value} : OpR X f (fun _ _ _ _ => False) := fun _ _ _ _ _ _ _ _ _ _ _ _ h => h.elim
theorem v_chain (hV : OkV G fV) (o : XOk G c d X) {a b e : Expr} {o1 o2 : CmpOp} {p : Pos} {x y : RV} {r r1 : Bool} {st1 st2 st3 : Store} (hb : notSet b = true) (he : notSet e = true) (h1 : fV d (compE k c a) env st = some (x, st1)) (h2 : fV d (compE k c b) env st1 = some (y, st2)) (h3 : cmpop o1 x y st2 = some r1)
    (h4 : (r1 = false ∧ r = false ∧ st3 = st2) ∨ (r1 = true ∧ ∃ z, fV d (compE k c e) env st2 = some (z, st3) ∧ cmpop o2 y z st3 = some r)) :
    PE X (.Compare a [o1, o2] [b, e] p) (tV X.K env st (.val (.bl r)) st3) ∧ PT X (.Compare a [o1, o2] [b, e] p) (tT X.K env st r st3) := by
  obtain ⟨rr, ho, hr⟩ := cmpop_ok (X := X) o.un h3
  rcases h4 with ⟨rfl, rfl, rfl⟩ | ⟨rfl, z, h5, h6⟩
  · refine ⟨PE.weak (pe_chain ho opr_no (hV k c d X a env st x st1 o h1) (hV k c d X b env st1 y _ o h2) pe_no (marks2 hb he)) fun σ H Q ⟨φ, sv, q⟩ => ?_, PT.weak (pt_chain ho opr_no (hV k c d X a env st x st1 o h1) (hV k c d X b env st1 y _ o h2) pe_no (marks2 hb he)) fun σ H Q ⟨φ, sv, q⟩ => ?_⟩
    · refine ⟨φ, sv, fun φ1 H1 u1 e1 s1 r1 f1 => ⟨φ1, sv.mono e1 s1, fun φ2 H2 u2 e2 s2 r2 f2 => ?_⟩⟩
      refine hr φ2 H2 u1 u2 _ (r1.mono e2) r2 s2 ⟨false, rfl, ?_⟩
      exact iteF ((q.step (e1.trans e2)).now s2 (.bl false))
    · refine ⟨φ, sv, fun φ1 H1 u1 e1 s1 r1 f1 => ⟨φ1, sv.mono e1 s1, fun φ2 H2 u2 e2 s2 r2 f2 => ?_⟩⟩
      refine hr φ2 H2 u1 u2 _ (r1.mono e2) r2 s2 ⟨false, rfl, ?_⟩
      exact iteF ⟨false, rfl, q φ2 H2 (e1.trans e2) s2⟩
  · obtain ⟨rr2, ho2, hr2⟩ := cmpop_ok (X := X) o.un h6
    refine ⟨PE.weak (pe_chain ho ho2 (hV k c d X a env st x st1 o h1) (hV k c d X b env st1 y st2 o h2) (hV k c d X e env st2 z st3 o h5) (marks2 hb he)) fun σ H Q ⟨φ, sv, q⟩ => ?_, PT.weak (pt_chain ho ho2 (hV k c d X a env st x st1 o h1) (hV k c d X b env st1 y st2 o h2) (hV k c d X e env st2 z st3 o h5) (marks2 hb he)) fun σ H Q ⟨φ, sv, q⟩ => ?_⟩
    · refine ⟨φ, sv, fun φ1 H1 u1 e1 s1 r1 f1 => ⟨φ1, sv.mono e1 s1, fun φ2 H2 u2 e2 s2 r2 f2 => ?_⟩⟩
      refine hr φ2 H2 u1 u2 _ (r1.mono e2) r2 s2 ⟨true, rfl, ?_⟩
      refine iteT ⟨φ2, sv.mono (e1.trans e2) s2, fun φ3 H3 u3 e3 s3 r3 f3 => ?_⟩
      exact hr2 φ3 H3 u2 u3 _ (r2.mono e3) r3 s3 ((q.step ((e1.trans e2).trans e3)).now s3 (.bl r))
    · refine ⟨φ, sv, fun φ1 H1 u1 e1 s1 r1 f1 => ⟨φ1, sv.mono e1 s1, fun φ2 H2 u2 e2 s2 r2 f2 => ?_⟩⟩
      refine hr φ2 H2 u1 u2 _ (r1.mono e2) r2 s2 ⟨true, rfl, ?_⟩
      refine iteT ⟨φ2, sv.mono (e1.trans e2) s2, fun φ3 H3 u3 e3 s3 r3 f3 => ?_⟩
      exact hr2 φ3 H3 u2 u3 _ (r2.mono e3) r3 s3 ⟨r, rfl, q φ3 H3 ((e1.trans e2).trans e3) s3⟩
theorem v_neg (hV : OkV G fV) (o : XOk G c d X) {a : Expr} {p : Pos} {i : Int} {st1 : Store} (h1 : fV d (compE k c a) env st = some (.val (.int i), st1)) : PE X (.UnaryOp .USub a p) (tV X.K env st (.val (.int (-i))) st1) := by
  refine PE.weak (pe_un un_neg (hV k c d X a env st _ st1 o h1)) fun σ H Q ⟨φ, sv, q⟩ => ⟨φ, sv, fun φ1 H1 u1 e1 s1 r1 f1 => ?_⟩
  rw [RelP.int_inv r1]
  exact ⟨i, rfl, (q.step e1).now s1 (.int _)⟩
theorem v_not (hV : OkV G fV) (o : XOk G c d X) {a : Expr} {p : Pos} {b : Bool} {st1 : Store} (h1 : fV d (compE k c a) env st = some (.val (.bl b), st1)) : PE X (.UnaryOp .Not a p) (tV X.K env st (.val (.bl (!b))) st1) := by
  refine PE.weak (pe_not (hV k c d X a env st _ st1 o h1)) fun σ H Q ⟨φ, sv, q⟩ => ⟨φ, sv, fun φ1 H1 u1 e1 s1 r1 f1 => ?_⟩
  rw [RelP.bl_inv r1]
  exact ⟨b, rfl, (q.step e1).now s1 (.bl _)⟩
theorem t_not (hT : OkT G fT) (o : XOk G c d X) {j : Nat} {a : Expr} {p : Pos} {b : Bool} {st1 : Store} (h1 : fT d (testE j (compE k c) a) env st = some (b, st1)) : PT X (.UnaryOp .Not a p) (tT X.K env st (!b) st1) :=
  PT.weak (pt_not (hT j k c d X a env st _ st1 o h1)) fun σ H Q ⟨φ, sv, q⟩ => ⟨φ, sv, fun φ1 H1 e1 s1 => q φ1 H1 e1 s1⟩
theorem v_and (hV : OkV G fV) (o : XOk G c d X) {p : Pos} {r : RV} {st' : Store} : ∀ {es : List Expr} {st : Store}, andL (fun e s => fV d e env s) (es.map (compE k c)) st = some (r, st') → PE X (.BoolOp .And es p) (tV X.K env st r st')
  | [], st, h => by cases h
  | [a], st, h => PE.weak (pe_one (hV k c d X a env st r st' o h)) fun σ H Q q => q
  | a :: b :: es, st, h => by
    have h' : (fV d (compE k c a) env st).bind (fun (r, st1) => match r with
      | .val (.bl true) => andL (fun e s => fV d e env s) ((b :: es).map (compE k c)) st1
      | .val (.bl false) => some (.val (.bl false), st1)
      | _ => none) = some (r, st') := h
    obtain ⟨⟨x, st1⟩, h1, h2⟩ := Option.bind_eq_some_iff.mp h'
    dsimp only at h2
    split at h2
    · refine PE.weak (pe_and (hV k c d X a env st _ st1 o h1) (v_and hV o h2)) fun σ H Q ⟨φ, sv, q⟩ => ⟨φ, sv, fun φ1 H1 u1 e1 s1 r1 f1 => ?_⟩
      rw [RelP.bl_inv r1]
      exact ⟨true, rfl, iteT ⟨φ1, sv.mono e1 s1, q.step e1⟩⟩
    · cases (Option.some.inj h2)
      refine PE.weak (pe_and (hV k c d X a env st _ _ o h1) pe_no) fun σ H Q ⟨φ, sv, q⟩ => ⟨φ, sv, fun φ1 H1 u1 e1 s1 r1 f1 => ?_⟩
      rw [RelP.bl_inv r1]
      exact ⟨false, rfl, iteF ((q.step e1).now s1 (.bl _))⟩
    · cases h2
theorem v_or (hV : OkV G fV) (o : XOk G c d X) {p : Pos} {r : RV} {st' : Store} : ∀ {es : List Expr} {st : Store}, orL (fun e s => fV d e env s) (es.map (compE k c)) st = some (r, st') → PE X (.BoolOp .Or es p) (tV X.K env st r st')
  | [], st, h => by cases h
  | [a], st, h => PE.weak (pe_one (hV k c d X a env st r st' o h)) fun σ H Q q => q
  | a :: b :: es, st, h => by
    have h' : (fV d (compE k c a) env st).bind (fun (r, st1) => match r with
      | .val (.bl true) => some (.val (.bl true), st1)
      | .val (.bl false) => orL (fun e s => fV d e env s) ((b :: es).map (compE k c)) st1
      | _ => none) = some (r, st') := h
    obtain ⟨⟨x, st1⟩, h1, h2⟩ := Option.bind_eq_some_iff.mp h'
    dsimp only at h2
    split at h2
    · cases (Option.some.inj h2)
      refine PE.weak (pe_or (hV k c d X a env st _ _ o h1) pe_no) fun σ H Q ⟨φ, sv, q⟩ => ⟨φ, sv, fun φ1 H1 u1 e1 s1 r1 f1 => ?_⟩
      rw [RelP.bl_inv r1]
      exact ⟨true, rfl, iteT ((q.step e1).now s1 (.bl _))⟩
    · refine PE.weak (pe_or (hV k c d X a env st _ st1 o h1) (v_or hV o h2)) fun σ H Q ⟨φ, sv, q⟩ => ⟨φ, sv, fun φ1 H1 u1 e1 s1 r1 f1 => ?_⟩
      rw [RelP.bl_inv r1]
      exact ⟨false, rfl, iteF ⟨φ1, sv.mono e1 s1, q.step e1⟩⟩
    · cases h2
theorem PW.weak {e : Expr} {t t' : TT} (h : PW X e t) (w : ∀ σ H Q, t' σ H Q → t σ H Q) : PW X e t' := ⟨fun whole pins s σ H Q I q => h.run whole pins s σ H Q I (w σ H Q q)⟩
theorem pw_no {e : Expr} : PW X e (fun _ _ _ => False) := ⟨fun _ _ _ _ _ _ _ h => h.elim⟩
theorem t_and (hT : OkT G fT) (o : XOk G c d X) {j : Nat} {p : Pos} {r : Bool} {st' : Store} : ∀ {es : List Expr} {st : Store}, andT (fun e s => fT d e env s) (es.map (testE j (compE k c))) st = some (r, st') → PW X (.BoolOp .And es p) (tT X.K env st r st')
  | [], st, h => by cases h
  | [a], st, h => PW.weak (pw_and1 (hT j k c d X a env st r st' o h)) fun σ H Q q => q
  | a :: b :: es, st, h => by
    have h' : (fT d (testE j (compE k c) a) env st).bind (fun (r, st1) => match r with
      | true => andT (fun e s => fT d e env s) ((b :: es).map (testE j (compE k c))) st1
      | false => some (false, st1)) = some (r, st') := h
    obtain ⟨⟨x, st1⟩, h1, h2⟩ := Option.bind_eq_some_iff.mp h'
    cases x with
    | true => exact PW.weak (pw_and (hT j k c d X a env st _ st1 o h1) (t_and hT o h2)) fun σ H Q ⟨φ, sv, q⟩ => ⟨φ, sv, fun φ1 H1 e1 s1 => iteT ⟨φ1, sv.mono e1 s1, fun φ2 H2 e2 s2 => q φ2 H2 (e1.trans e2) s2⟩⟩
    | false =>
      cases (Option.some.inj h2)
      exact PW.weak (pw_and (hT j k c d X a env st _ _ o h1) pw_no) fun σ H Q ⟨φ, sv, q⟩ => ⟨φ, sv, fun φ1 H1 e1 s1 => iteF (q φ1 H1 e1 s1)⟩
theorem t_or (hT : OkT G fT) (o : XOk G c d X) {j : Nat} {p : Pos} {r : Bool} {st' : Store} : ∀ {es : List Expr} {st : Store}, orT (fun e s => fT d e env s) (es.map (testE j (compE k c))) st = some (r, st') → PW X (.BoolOp .Or es p) (tT X.K env st r st')
  | [], st, h => by cases h
  | [a], st, h => PW.weak (pw_or1 (hT j k c d X a env st r st' o h)) fun σ H Q q => q
  | a :: b :: es, st, h => by
    have h' : (fT d (testE j (compE k c) a) env st).bind (fun (r, st1) => match r with
      | true => some (true, st1)
      | false => orT (fun e s => fT d e env s) ((b :: es).map (testE j (compE k c))) st1) = some (r, st') := h
    obtain ⟨⟨x, st1⟩, h1, h2⟩ := Option.bind_eq_some_iff.mp h'
    cases x with
    | true =>
      cases (Option.some.inj h2)
      exact PW.weak (pw_or (hT j k c d X a env st _ _ o h1) pw_no) fun σ H Q ⟨φ, sv, q⟩ => ⟨φ, sv, fun φ1 H1 e1 s1 => iteT (q φ1 H1 e1 s1)⟩
    | false => exact PW.weak (pw_or (hT j k c d X a env st _ st1 o h1) (t_or hT o h2)) fun σ H Q ⟨φ, sv, q⟩ => ⟨φ, sv, fun φ1 H1 e1 s1 => iteF ⟨φ1, sv.mono e1 s1, fun φ2 H2 e2 s2 => q φ2 H2 (e1.trans e2) s2⟩⟩
theorem v_ife (hV : OkV G fV) (hT : OkT G fT) (o : XOk G c d X) {t a b : Expr} {p : Pos} {cd : Bool} {r : RV} {st1 st2 : Store} (h1 : fT d (testE tj (compE k c) t) env st = some (cd, st1))
    (h2 : (cd = true ∧ fV d (compE k c a) env st1 = some (r, st2)) ∨ (cd = false ∧ fV d (compE k c b) env st1 = some (r, st2))) : PE X (.IfExp t a b p) (tV X.K env st r st2) := by
  rcases h2 with ⟨rfl, h2⟩ | ⟨rfl, h2⟩
  · exact PE.weak (pe_ifExp (hT tj k c d X t env st _ st1 o h1) (hV k c d X a env st1 r st2 o h2) pe_no) fun σ H Q ⟨φ, sv, q⟩ => ⟨φ, sv, fun φ1 H1 e1 s1 => iteT ⟨φ1, sv.mono e1 s1, q.step e1⟩⟩
  · exact PE.weak (pe_ifExp (hT tj k c d X t env st _ st1 o h1) pe_no (hV k c d X b env st1 r st2 o h2)) fun σ H Q ⟨φ, sv, q⟩ => ⟨φ, sv, fun φ1 H1 e1 s1 => iteF ⟨φ1, sv.mono e1 s1, q.step e1⟩⟩
theorem v_tup (hV : OkV G fV) (o : XOk G c d X) {es : List Expr} {kk : Nat} {p : Pos} {vs : List PV} {st1 : Store} (hs : es.all notStar = true) (h1 : evL (evE fun e s => fV d e env s) (es.map (compE k c)) st = some (vs, st1)) (hl : vs.length ≤ lim) :
    PE X (.Tuple es kk p) (tV X.K env st (.val (.tup vs)) st1) :=
  PE.weak (pe_tup (pa_E hV o hs h1)) fun σ H Q ⟨φ, sv, q⟩ => ⟨φ, sv, fun φ1 H1 us e1 s1 r1 => ⟨by rw [← r1.length]; exact lim_line hl, fun p hp => (q.step e1).tup s1 r1 hp⟩⟩
theorem v_lst (hV : OkV G fV) (o : XOk G c d X) {es : List Expr} {p : Pos} {vs : List PV} {st1 : Store} (hs : es.all notStar = true) (h1 : evL (evE fun e s => fV d e env s) (es.map (compE k c)) st = some (vs, st1)) (hl : vs.length ≤ lim) :
    PE X (.List es p) (tV X.K env st (.new vs) st1) :=
  PE.weak (pe_lst (pa_E hV o hs h1)) fun σ H Q ⟨φ, sv, q⟩ => ⟨φ, sv, fun φ1 H1 us e1 s1 r1 => ⟨by rw [← r1.length]; exact lim_line hl, fun p hp => (q.step e1).lst s1 r1 hp⟩⟩
theorem v_idx (hV : OkV G fV) (o : XOk G c d X) {a b : Expr} {p : Pos} {x y : RV} {z : PV} {st1 st2 : Store} (hb : notSlice b = true) (h1 : fV d (compE k c a) env st = some (x, st1)) (h2 : fV d (compE k c b) env st1 = some (y, st2)) (h3 : getIx x y st2 = some z) :
    PE X (.Subscript a b p) (tV X.K env st (.val z) st2) := by
  obtain ⟨rr, ho, hr⟩ := getIx_ok (X := X) (a := a) (pos := p) hb o.un1 h3
  refine PE.weak (ho _ _ (hV k c d X a env st x st1 o h1) (hV k c d X b env st1 y st2 o h2)) fun σ H Q ⟨φ, sv, q⟩ => ?_
  refine ⟨φ, sv, fun φ1 H1 u1 e1 s1 r1 f1 => ⟨φ1, sv.mono e1 s1, fun φ2 H2 u2 e2 s2 r2 f2 => ?_⟩⟩
  exact hr φ2 H2 u1 u2 Q (r1.mono e2) r2 s2 (q.step (e1.trans e2))
def tO (K : PySem.W.Frag) (env : Env) (st : Store) (l : Option Int) (st' : Store) : TO := fun σ H Q => ∃ φ, SV K φ σ H env st ∧ ∀ φ' H', Evo φ φ' H H' → StR K φ' H' st' → Q l H'
theorem PO.weak {e : Option Expr} {t t' : TO} (h : PO X e t) (w : ∀ σ H Q, t' σ H Q → t σ H Q) : PO X e t' := ⟨fun pins s σ H Q I q => h.run pins s σ H Q I (w σ H Q q)⟩
theorem o_part (hV : OkV G fV) (o : XOk G c d X) {l : Option Expr} {i : Option Int} {st1 : Store} (h : optI (fun e s => fV d e env s) (l.map (compE k c)) st = some (i, st1)) : PO X l (tO X.K env st i st1) := by
  cases l with
  | none =>
    cases (Option.some.inj h)
    exact PO.weak po_none fun σ H Q ⟨φ, sv, q⟩ => q φ H (.refl _ _) sv.st
  | some e =>
    have h' : (fV d (compE k c e) env st).bind (fun (r, st1) => match r with
      | .val (.int i) => some (some i, st1)
      | _ => none) = some (i, st1) := h
    obtain ⟨⟨x, st2⟩, h1, h2⟩ := Option.bind_eq_some_iff.mp h'
    dsimp only at h2
    split at h2
    · cases (Option.some.inj h2)
      refine PO.weak (po_some (hV k c d X e env st _ _ o h1)) fun σ H Q ⟨φ, sv, q⟩ => ⟨φ, sv, fun φ1 H1 u1 e1 s1 r1 f1 => ?_⟩
      rw [RelP.int_inv r1]
      exact ⟨_, rfl, q φ1 H1 e1 s1⟩
    · cases h2
theorem v_slice (hV : OkV G fV) (o : XOk G c d X) {a : Expr} {lo hi : Option Expr} {p p2 : Pos} {x r : RV} {l u : Option Int} {st1 st2 st3 : Store} (h1 : fV d (compE k c a) env st = some (x, st1)) (h2 : optI (fun e s => fV d e env s) (lo.map (compE k c)) st1 = some (l, st2))
    (h3 : optI (fun e s => fV d e env s) (hi.map (compE k c)) st2 = some (u, st3)) (h4 : getSl x l u st3 = some r) : PE X (.Subscript a (.Slice lo hi none p2) p) (tV X.K env st r st3) := by
  obtain ⟨rr, ho, hr⟩ := getSl_ok (X := X) h4
  refine PE.weak (pe_slice ho (hV k c d X a env st x st1 o h1) (o_part hV o h2) (o_part hV o h3)) fun σ H Q ⟨φ, sv, q⟩ => ?_
  refine ⟨φ, sv, fun φ1 H1 u1 e1 s1 r1 f1 => ⟨φ1, sv.mono e1 s1, fun φ2 H2 e2 s2 => ⟨φ2, sv.mono (e1.trans e2) s2, fun φ3 H3 e3 s3 => ?_⟩⟩⟩
  exact hr φ3 H3 u1 Q (r1.mono (e2.trans e3)) s3 (q.step (e1.trans (e2.trans e3)))
theorem v_rev (hV : OkV G fV) (o : XOk G c d X) {a : Expr} {kk : Nat} {p p1 p2 p3 : Pos} {x : RV} {xs : List PV} {st1 : Store} (h1 : fV d (compE k c a) env st = some (x, st1)) (h2 : itemsOf st1 x = some (true, xs)) :
    PE X (.Subscript a (.Slice none none (some (.UnaryOp .USub (.Constant (.int 1) kk p1) p2)) p3) p) (tV X.K env st (.new xs.reverse) st1) := by
  refine PE.weak (pe_revL (hV k c d X a env st x st1 o h1)) fun σ H Q ⟨φ, sv, q⟩ => ⟨φ, sv, fun φ1 H1 u1 e1 s1 r1 f1 => ?_⟩
  obtain ⟨p, vs, rfl, hr, hl, _⟩ := items_ok h2 r1 s1
  exact ⟨p, vs, rfl, hl rfl, fun p hp => (q.step e1).lst s1 hr.rev hp⟩
end
end MI
end
section
set_option Elab.async false
set_option linter.all false
set_option maxRecDepth 100000
set_option maxHeartbeats 4000000
/-! MI6: displays of dicts, calls, methods, what is walked, comprehensions. -/
namespace MI
open PySem PySem.Spec PyProof.Rows L2

section
variable {K : PySem.W.Frag} {φ φ2 : List Addr} {H H2 : Hp} {st : Store}
/-- an untold object that may change becomes a told cell -/
theorem Evo.tell {p : Addr} {u o : HO} (e : Evo φ φ2 H H2) (hp : H p = none) (h2 : H2 p = some u) (hu : Mut (some u)) (hn : p ∉ φ2) : Evo φ (φ2 ++ [p]) H (upd H2 p o) := by
  have kp : Keeps H2 (upd H2 p o) := .upd h2 hu
  obtain ⟨m, e1, f⟩ := e.pre
  refine ⟨⟨m ++ [p], by rw [e1, List.append_assoc], fun a ha => ?_⟩, fun b xs q => kp.tup _ _ (e.tup _ _ q), fun b o u q => kp.frz _ _ _ (e.frz _ _ _ q), fun b o' q hb => ?_, fun b o' q => ?_⟩
  · rcases List.mem_append.mp ha with ha | ha
    · exact f a ha
    · rw [List.mem_singleton] at ha
      rw [ha]
      exact hp
  · rw [upd_ne (ne_of_none q hp)]
    exact e.out b o' q hb
  · obtain ⟨o2, q2⟩ := e.dom b o' q
    exact ⟨o2, by rw [upd_ne (ne_of_none q hp)]; exact q2⟩
theorem Evo.mutNew {p : Addr} {u o : HO} (e : Evo φ φ2 H H2) (hp : H p = none) (h2 : H2 p = some u) (hu : Mut (some u)) : Evo φ φ2 H (upd H2 p o) := by
  have kp : Keeps H2 (upd H2 p o) := .upd h2 hu
  refine ⟨e.pre, fun b xs q => kp.tup _ _ (e.tup _ _ q), fun b o u q => kp.frz _ _ _ (e.frz _ _ _ q), fun b o' q hb => ?_, fun b o' q => ?_⟩
  · rw [upd_ne (ne_of_none q hp)]
    exact e.out b o' q hb
  · obtain ⟨o2, q2⟩ := e.dom b o' q
    exact ⟨o2, by rw [upd_ne (ne_of_none q hp)]; exact q2⟩
/-- told cells where an untold object changes -/
theorem StR.mut {p : Addr} {u o : HO} (s : StR K φ H st) (h : H p = some u) (hu : Mut (some u)) (hn : p ∉ φ) : StR K φ (upd H p o) st := by
  have kp : Keeps H (upd H p o) := .upd h hu
  refine ⟨s.len, s.nd, fun n c a h1 h2 => ?_⟩
  have hb : a ≠ p := fun z => hn (by rw [← z]; exact List.mem_of_getElem? h2)
  have z := s.at_ n c a h1 h2
  cases c with
  | lst xs => obtain ⟨vs, q, r⟩ := z; exact ⟨vs, by rw [upd_ne hb]; exact q, r.keep kp⟩
  | dct kvs => obtain ⟨vs, q, r⟩ := z; exact ⟨vs, by rw [upd_ne hb]; exact q, RelK.keep kp r⟩
theorem RelK.fold {ks : List Str} : ∀ {xs : List PV} {vs : List V} {acc : List (Key × PV)} {acc' : List (Key × V)}, RelPs K φ H xs vs → RelK K φ H acc acc' →
    RelK K φ H ((ks.zip xs).foldl (fun acc kv => dctPut acc (.inr kv.1) kv.2) acc) (((ks.zip vs).map fun p => ((.inr p.1, p.2) : Key × V)).foldl (fun acc kv => putK acc kv.1 kv.2) acc') := by
  induction ks with
  | nil => intro xs vs acc acc' _ h; exact h
  | cons s ks ih =>
    intro xs vs acc acc' r h
    cases r with
    | nil => exact h
    | cons r rs => exact ih rs (h.put r)
end

section
variable {G : List Fn} {fV : Nat → IE → Env → Store → Option (RV × Store)} {fT : Nat → IE → Env → Store → Option (Bool × Store)} {k d n : Nat} {c : Cc} {X : Cx} {env : Env} {st st' : Store}
theorem pps_of (hV : OkV G fV) (o : XOk G c d X) {p : Pos} : ∀ {ks : List (Option Expr)} {ss : List Str} {es : List Expr} {st : Store} {vs : List PV}, allSome (ks.map strKey) = some ss → ks.length = es.length → evL (evE fun e s => fV d e env s) (es.map (compE k c)) st = some (vs, st') →
    ∃ trs, PPs X p ks es trs ∧ ∀ σ H φ Q, SV X.K φ σ H env st → (∀ φ' H' us, Evo φ φ' H H' → StR X.K φ' H' st' → RelPs X.K φ' H' vs us → us.length = ss.length → Q ((ss.zip us).map fun q => (V.str q.1, q.2)) H') → tPairs trs σ H Q
  | [], ss, es, st, vs, h1, h2, h3 => by
    cases (Option.some.inj h1)
    cases es with
    | cons _ _ => cases h2
    | nil =>
      cases (Option.some.inj h3)
      exact ⟨[], pps_nil, fun σ H φ Q sv q => q φ H [] (.refl _ _) sv.st .nil rfl⟩
  | x :: ks, ss, [], st, vs, h1, h2, h3 => by cases h2
  | x :: ks, ss, e :: es, st, vs, h1, h2, h3 => by
    have hx : ∃ s ss', strKey x = some s ∧ allSome (ks.map strKey) = some ss' ∧ ss = s :: ss' := by
      rw [List.map_cons] at h1
      cases q : strKey x with
      | none => rw [q] at h1; cases h1
      | some s =>
        rw [q] at h1
        obtain ⟨ss', h4, h5⟩ := Option.map_eq_some_iff.mp h1
        exact ⟨s, ss', rfl, h4, h5.symm⟩
    obtain ⟨s, ss', q1, q2, rfl⟩ := hx
    have hk : ∃ kk kp, x = some (.Constant (.str s) kk kp) := by
      unfold strKey at q1
      split at q1
      · cases (Option.some.inj q1); exact ⟨_, _, rfl⟩
      · cases q1
    obtain ⟨kk, kp, rfl⟩ := hk
    obtain ⟨⟨v, st1⟩, h4, h5⟩ := Option.bind_eq_some_iff.mp h3
    obtain ⟨⟨vs2, st2⟩, h6, h7⟩ := Option.bind_eq_some_iff.mp h5
    cases (Option.some.inj h7)
    obtain ⟨r, h8, h9⟩ := Option.map_eq_some_iff.mp h4
    have p1 := pe_alloc (r := r) (hV k c d X e env st r.1 r.2 o h8)
    rw [h9] at p1
    obtain ⟨trs, t1, t2⟩ := pps_of (p := p) hV o q2 (Nat.succ.inj h2) h6
    refine ⟨_, pps_cons pe_str p1 t1, fun σ H φ Q sv q => ?_⟩
    refine ⟨φ, sv, fun φ1 H1 u1 e1 s1 r1 => t2 σ H1 φ1 _ (sv.mono e1 s1) fun φ2 H2 us e2 s2 r2 hl => ?_⟩
    exact q φ2 H2 (u1 :: us) (e1.trans e2) s2 (.cons (r1.mono e2) r2) (congrArg Nat.succ hl)
theorem v_dct (hV : OkV G fV) (o : XOk G c d X) {ks : List (Option Expr)} {ss : List Str} {es : List Expr} {p : Pos} {vs : List PV} (h1 : allSome (ks.map strKey) = some ss) (h2 : ks.length = es.length) (h0 : 0 < ks.length) (h15 : ks.length ≤ 15)
    (h3 : evL (evE fun e s => fV d e env s) (es.map (compE k c)) st = some (vs, st')) :
    PE X (.Dict ks es p) (tV X.K env st (.val (.ref st'.length)) (st' ++ [.dct ((ss.zip vs).foldl (fun acc kv => dctPut acc (.inr kv.1) kv.2) [])])) := by
  obtain ⟨trs, t1, t2⟩ := pps_of (p := p) hV o h1 h2 h3
  have hall : ks.all (·.isSome) = true := by
    clear t1 t2 h3 h2 h0 h15
    induction ks generalizing ss with
    | nil => rfl
    | cons x ks ih =>
      rw [List.map_cons] at h1
      cases q : strKey x with
      | none => rw [q] at h1; cases h1
      | some s =>
        rw [q] at h1
        obtain ⟨ss', h4, h5⟩ := Option.map_eq_some_iff.mp h1
        rw [List.all_cons, ih h4]
        cases x with
        | none => cases q
        | some _ => rfl
  have hss : ss.length = ks.length := by
    clear t1 t2 h3 h2 h0 h15 hall
    induction ks generalizing ss with
    | nil => cases (Option.some.inj h1); rfl
    | cons x ks ih =>
      rw [List.map_cons] at h1
      cases q : strKey x with
      | none => rw [q] at h1; cases h1
      | some s =>
        rw [q] at h1
        obtain ⟨ss', h4, h5⟩ := Option.map_eq_some_iff.mp h1
        rw [← h5, List.length_cons, ih h4, List.length_cons]
  refine PE.weak (pe_disp t1 hall h2 (fun z => by rw [z] at h0; exact absurd h0 (by decide)) h15) fun σ H Q ⟨φ, sv, q⟩ => ?_
  intro p hp
  have ev0 : Evo φ φ H (upd H p (.dK [])) := .new hp
  refine t2 σ _ φ _ (sv.mono ev0 (sv.st.new hp)) fun φ1 H1 us e1 s1 r1 hl => ?_
  have hn : p ∉ φ := sv.st.nin hp
  have h1p : H1 p = some (.dK []) := e1.out p _ upd_same hn
  have hn1 : p ∉ φ1 := e1.nin upd_same hn
  refine ⟨h1p, (ss.zip us).map fun z => ((.inr z.1, z.2) : Key × V), by rw [List.map_map]; rfl, ?_, ?_⟩
  · rw [List.length_map, List.length_zip, hss]
    exact Nat.le_trans (Nat.min_le_left _ _) h15
  · have s2 : StR X.K φ1 (upd H1 p (.dK (mergeK [] ((ss.zip us).map fun z => ((.inr z.1, z.2) : Key × V))))) st' := s1.mut h1p trivial hn1
    refine q (φ1 ++ [p]) _ (.ref p) ((ev0.trans e1).tell hp h1p trivial hn1) (s2.tell hn1 fun φ' g => ⟨_, upd_same, ?_⟩) (.ref ?_) trivial
    · have ev1 : Keeps H1 (upd H1 p (.dK (mergeK [] ((ss.zip us).map fun z => ((.inr z.1, z.2) : Key × V))))) := .upd h1p trivial
      exact RelK.grow g (RelK.keep ev1 (RelK.fold r1 .nil))
    · rw [List.getElem?_append_right (by rw [s1.len]; exact Nat.le_refl _), s1.len]
      simp
/-! ### calls -/
theorem v_bi (hV : OkV G fV) (o : XOk G c d X) {f : Str} {p pos : Pos} {es : List Expr} {b : Bi} {xs : List RV} {r : RV} (hg : gloB c.sc f = true) (hb : c.bis.lookup f = some b) (hs : es.all notStar = true) (h0 : 0 < es.length)
    (h1 : evL (fun e s => fV d e env s) (es.map (compE k c)) st = some (xs, st')) (h2 : biCall b xs st' = some r) : PE X (.Call (.Name f p) es [] pos) (tV X.K env st r st') := by
  obtain ⟨rr, hr, hq⟩ := biCall_ok (X := X) o.calm h2
  obtain ⟨e1, e2, e3, e4, e5⟩ := o.bis f b hb
  have gl : Gl X f := by
    show X.env.scope.names.lookup f = _
    rw [o.sc]
    exact glo_of hg
  cases es with
  | nil => exact absurd h0 (by decide)
  | cons e es =>
    have ha := pa_V hV o hs h1
    rw [List.all_cons, Bool.and_eq_true] at hs
    have fin : ∀ σ H Q, tV X.K env st r st' σ H Q → tCB rr (tRs X.K env st xs st') σ H Q := fun σ H Q ⟨φ, sv, q⟩ => ⟨φ, sv, fun φ1 H1 us e1 s1 r1 => hq φ1 H1 us Q r1 s1 (q.step e1)⟩
    have gB : ∀ id, (biVal b).2 = .builtin id → PE X (.Call (.Name f p) (e :: es) [] pos) (tV X.K env st r st') := fun id hid =>
      PE.weak (pe_callB (id := id) (by rw [← hid]; exact hr) gl e2 (by rw [← hid]; exact e3) ha e4 e5 (star_cons hs.1) (star_any hs.2)) fin
    have gT : ∀ id, (biVal b).2 = .type id → PE X (.Call (.Name f p) (e :: es) [] pos) (tV X.K env st r st') := fun id hid =>
      PE.weak (pe_callTy (T := id) (by rw [← hid]; exact hr) gl e2 (by rw [← hid]; exact e3) ha e4 e5 (star_cons hs.1) (star_any hs.2)) fin
    cases b with
    | len => exact gB _ rfl
    | isinst => exact gB _ rfl
    | all => exact gB _ rfl
    | any => exact gB _ rfl
    | max2 => exact gB _ rfl
    | min2 => exact gB _ rfl
    | abs => exact gB _ rfl
    | int1 => exact gT _ rfl
    | tuple1 => exact gT _ rfl
    | list1 => exact gT _ rfl
    | range => exact gT _ rfl
    | zip => exact gT _ rfl
    | enum => exact gT _ rfl
theorem v_call (hV : OkV G fV) (o : XOk G c d X) {f : Str} {p pos : Pos} {es : List Expr} {j : Nat} {ps : List Str} {vs : List PV} {v : PV} {st1 st2 : Store} (hg : gloB c.sc f = true) (hf : c.F[j]? = some (f, ps)) (hs : es.all notStar = true) (h0 : 0 < es.length)
    (h1 : evL (evE fun e s => fV d e env s) (es.map (compE k c)) st = some (vs, st1)) (h2 : (run G n).C d j vs st1 = some (v, st2)) : PE X (.Call (.Name f p) es [] pos) (tV X.K env st (.val v) st2) := by
  obtain ⟨fa, fd, e1, e2, e3, e4, e5, _⟩ := o.fns j f ps hf
  have gl : Gl X f := by
    show X.env.scope.names.lookup f = _
    rw [o.sc]
    exact glo_of hg
  cases es with
  | nil => exact absurd h0 (by decide)
  | cons e es =>
    have ha := pa_E hV o hs h1
    rw [List.all_cons, Bool.and_eq_true] at hs
    refine PE.weak (pe_call e4 o.room gl e1 e2 e3 .nil pass0 ha e5 (star_cons hs.1) (star_any hs.2)) fun σ H Q ⟨φ, sv, q⟩ => ⟨φ, sv, fun φ1 H1 us ev s1 r1 => ?_⟩
    refine ⟨n, φ1, vs, st1, v, st2, by rw [List.append_nil]; exact r1, s1, h2, fun φ2 H2 u ev2 s2 r2 => ?_⟩
    exact q φ2 H2 u (ev.trans ev2) s2 r2 trivial
end
end MI
end
section
set_option Elab.async false
set_option linter.all false
set_option maxRecDepth 100000
set_option maxHeartbeats 4000000
/-! MI7: keyword calls, methods, what is walked. -/
namespace MI
open PySem PySem.Spec PyProof.Rows L2
section
variable {X : Cx} {CX : CXT} {k n : Nat} {f : Addr} {fd : FuncData} {ps ks : List Str} {sp : Sp} {E : XK} {x : Str} {p pos : Pos} {kws : List Keyword} {tk : TA} {g : List Value → List Value → List Value} {gV : List V → List V → List V}
/-- f(k = v, ..): keywords alone -/
theorem pe_callN0 (F : FnOk X.prog X.w X.K X.mg X.base CX k f fd ps sp) (hr : Room k X.A) (hg : Gl X x) (hm : X.mg x = some (.ref f)) (hk : PySem.W.keepIn X.K (.ref f) = true) (hb : KBn X.K fd ps 0 ks g gV) (hx : Passes CX X E)
    (hkw : PK X kws tk) (hall : (backToKw pos (keywordEach kws X.env)).all (·.1.isSome) = true) (hks : (backToKw pos (keywordEach kws X.env)).filterMap (·.1) = ks)
    (hdb : (x == ("__debug__" : Str)) = false) (hpl : ((backTo pos (starEach [] X.env)).any (·.1) || (backToKw pos (keywordEach kws X.env)).any (·.1.isNone)) = false) :
    PE X (.Call (.Name x p) [] kws pos) (tCallN 0 ks.length sp gV E tNil tk) := by
  refine ⟨fun pins s σ H Q I h => ?_⟩
  refine wpAny_Call_Name_kw (ld_glob I hg hm ?_ hdb)
  refine PySem.W.callWith_KW0 (h₀ := X.base) I.ok.mod.kin hk hall (thn (hkw.run pos pins s σ H _ I h) fun ws s2 ⟨zs, H2, I2, rz, l1, l2, q2⟩ => ⟨I2.kIn, ?_⟩) hpl
  rw [hks]
  exact run_fnN (us := []) F hr hb hx I2 .nil rz l1 l2 q2
end
section
variable {G : List Fn} {fV : Nat → IE → Env → Store → Option (RV × Store)} {fT : Nat → IE → Env → Store → Option (Bool × Store)} {k d n : Nat} {c : Cc} {X : Cx} {env : Env} {st st' : Store}
theorem PK.weak {e : List Keyword} {t t' : TA} (h : PK X e t) (w : ∀ σ H Q, t' σ H Q → t σ H Q) : PK X e t' := ⟨fun pos pins s σ H Q I q => h.run pos pins s σ H Q I (w σ H Q q)⟩
theorem pk_E (hV : OkV G fV) (o : XOk G c d X) : ∀ {ks : List Keyword} {st st' : Store} {vs : List PV}, evL (evE fun e s => fV d e env s) ((kwExprs ks).map (compE k c)) st = some (vs, st') → PK X ks (tAs X.K env st vs st')
  | [], st, st', vs, h => by
    cases (Option.some.inj h)
    exact PK.weak pk_nil fun σ H Q ⟨φ, sv, q⟩ => q φ H [] (.refl _ _) sv.st .nil
  | ⟨nm, e, kp⟩ :: ks, st, st', vs, h => by
    obtain ⟨⟨v, st1⟩, h1, h2⟩ := Option.bind_eq_some_iff.mp h
    obtain ⟨⟨vs2, st2⟩, h3, h4⟩ := Option.bind_eq_some_iff.mp h2
    cases (Option.some.inj h4)
    obtain ⟨r, h5, h6⟩ := Option.map_eq_some_iff.mp h1
    have p1 := pe_alloc (r := r) (hV k c d X e env st r.1 r.2 o h5)
    rw [h6] at p1
    refine PK.weak (pk_cons p1 (pk_E hV o h3)) fun σ H Q ⟨φ, sv, q⟩ => ?_
    refine ⟨φ, sv, fun φ1 H1 u1 e1 s1 r1 => ⟨φ1, sv.mono e1 s1, fun φ2 H2 us e2 s2 r2 => ?_⟩⟩
    exact q φ2 H2 _ (e1.trans e2) s2 (.cons (r1.mono e2) r2)
theorem kw_all {e : PySem.Env} {pos : Pos} : ∀ {kws : List Keyword} {ks : List Str}, kwNames kws = some ks → (backToKw pos (keywordEach kws e)).all (·.1.isSome) = true ∧ (backToKw pos (keywordEach kws e)).filterMap (·.1) = ks ∧ (backToKw pos (keywordEach kws e)).any (·.1.isNone) = false
  | [], ks, h => by cases (Option.some.inj h); exact ⟨rfl, rfl, rfl⟩
  | ⟨nm, x, kp⟩ :: kws, ks, h => by
    unfold kwNames at h
    rw [List.map_cons] at h
    cases nm with
    | none => cases h
    | some y =>
      obtain ⟨ks', h1, h2⟩ := Option.map_eq_some_iff.mp h
      subst h2
      obtain ⟨i1, i2, i3⟩ := kw_all (e := e) (pos := pos) (kws := kws) h1
      refine ⟨?_, ?_, ?_⟩
      · show (true && (backToKw pos (keywordEach kws e)).all (·.1.isSome)) = true
        rw [i1]; rfl
      · show y :: (backToKw pos (keywordEach kws e)).filterMap (·.1) = y :: ks'
        rw [i2]
      · show (false || (backToKw pos (keywordEach kws e)).any (·.1.isNone)) = false
        rw [i3]; rfl
theorem evL_length {α : Type} {f : IE → Store → Option (α × Store)} : ∀ {es : List IE} {st : Store} {vs : List α} {st' : Store}, evL f es st = some (vs, st') → vs.length = es.length
  | [], st, vs, st', h => by cases (Option.some.inj h); rfl
  | e :: es, st, vs, st', h => by
    obtain ⟨⟨v, st1⟩, h1, h2⟩ := Option.bind_eq_some_iff.mp h
    obtain ⟨⟨vs2, st2⟩, h3, h4⟩ := Option.bind_eq_some_iff.mp h2
    cases (Option.some.inj h4)
    rw [List.length_cons, List.length_cons, evL_length h3]
theorem permute_rel {K : PySem.W.Frag} {φ : List Addr} {H : Hp} {vs : List PV} {us : List V} (r : RelPs K φ H vs us) : ∀ {pm : List Nat} {ws : List PV}, permute vs pm = some ws → RelPs K φ H ws (pm.map fun i => us.getD i .non)
  | [], ws, h => by cases (Option.some.inj h); exact .nil
  | i :: pm, ws, h => by
    obtain ⟨v, h1, h2⟩ := Option.bind_eq_some_iff.mp h
    obtain ⟨ws', h3, h4⟩ := Option.map_eq_some_iff.mp h2
    subst h4
    obtain ⟨u, h5, h6⟩ := r.get h1
    refine .cons ?_ (permute_rel r h3)
    have : us.getD i .non = u := by
      rw [List.getD_eq_getElem?_getD, h5]
      rfl
    show RelP K φ H v (us.getD i .non)
    rw [this]
    exact h6
theorem kw_len : ∀ {kws : List Keyword} {ks : List Str}, kwNames kws = some ks → (kwExprs kws).length = ks.length
  | [], ks, h => by cases (Option.some.inj h); rfl
  | ⟨nm, x, kp⟩ :: kws, ks, h => by
    cases nm with
    | none => cases h
    | some y =>
      obtain ⟨ks', h1, h2⟩ := Option.map_eq_some_iff.mp h
      subst h2
      exact congrArg Nat.succ (kw_len (kws := kws) h1)
theorem v_callK (hV : OkV G fV) (o : XOk G c d X) {f : Str} {p pos : Pos} {es : List Expr} {kws : List Keyword} {j : Nat} {ps ks : List Str} {pm : List Nat} {vs ws us : List PV} {v : PV} {st1 st2 st3 : Store} (hg : gloB c.sc f = true) (hf : c.F[j]? = some (f, ps)) (hs : es.all notStar = true)
    (hk : kwNames kws = some ks) (hl : es.length + ks.length = ps.length) (hm : (j, ks, pm) ∈ c.KF)
    (h1 : evL (evE fun e s => fV d e env s) (es.map (compE k c)) st = some (vs, st1)) (h2 : evL (evE fun e s => fV d e env s) ((kwExprs kws).map (compE k c)) st1 = some (ws, st2)) (h3 : permute (vs ++ ws) pm = some us) (h4 : (run G n).C d j us st2 = some (v, st3)) :
    PE X (.Call (.Name f p) es kws pos) (tV X.K env st (.val v) st3) := by
  obtain ⟨fa, fd, e1, e2, e3, e4, e5, e6⟩ := o.fns j f ps hf
  have kb := e6 ks pm hm
  have hn : ps.length - ks.length = es.length := by omega
  rw [hn] at kb
  have gl : Gl X f := by
    show X.env.scope.names.lookup f = _
    rw [o.sc]
    exact glo_of hg
  obtain ⟨k1, k2, k3⟩ := kw_all (e := X.env) (pos := pos) hk
  have l1 : vs.length = es.length := by rw [evL_length h1, List.length_map]
  have l2 : ws.length = ks.length := by
    rw [evL_length h2, List.length_map, kw_len hk]
  have fin : ∀ σ H Q, tV X.K env st (.val v) st3 σ H Q → tCallN es.length ks.length (spF X.K G d j) (gperm .non pm) E0 (tAs X.K env st vs st1) (tAs X.K env st1 ws st2) σ H Q := fun σ H Q ⟨φ, sv, q⟩ =>
    ⟨φ, sv, fun φ1 H1 u1 ev1 s1 r1 => ⟨φ1, sv.mono ev1 s1, fun φ2 H2 u2 ev2 s2 r2 => ⟨by rw [← r1.length, l1], by rw [← r2.length, l2],
      n, φ2, us, st2, v, st3, permute_rel ((r1.mono ev2).append r2) h3, s2, h4, fun φ3 H3 u ev3 s3 r3 => q φ3 H3 u (ev1.trans (ev2.trans ev3)) s3 r3 trivial⟩⟩⟩
  cases es with
  | nil =>
    have ht : ∀ σ H Q, tV X.K env st (.val v) st3 σ H Q → tCallN 0 ks.length (spF X.K G d j) (gperm .non pm) E0 tNil (tAs X.K env st ws st2) σ H Q := fun σ H Q q => by
      cases (Option.some.inj h1)
      obtain ⟨φ, sv, q⟩ := q
      exact ⟨φ, sv, fun φ2 H2 u2 ev2 s2 r2 => ⟨rfl, by rw [← r2.length, l2],
        n, φ2, us, st2, v, st3, permute_rel r2 h3, s2, h4, fun φ3 H3 u ev3 s3 r3 => q φ3 H3 u (ev2.trans ev3) s3 r3 trivial⟩⟩
    have h2' : evL (evE fun e s => fV d e env s) ((kwExprs kws).map (compE k c)) st = some (ws, st2) := by
      cases (Option.some.inj h1)
      exact h2
    refine PE.weak (pe_callN0 e4 o.room gl e1 e2 kb pass0 (pk_E hV o h2') k1 k2 e5 ?_) ht
    show (false || _) = false
    rw [k3]
    rfl
  | cons e es =>
    have ha := pa_E hV o hs h1
    rw [List.all_cons, Bool.and_eq_true] at hs
    refine PE.weak (pe_callN e4 o.room gl e1 e2 kb pass0 ha (pk_E hV o h2) k1 k2 e5 (star_cons hs.1) ?_) fin
    have := star_any (env := X.env) (pos := pos) (es := e :: es) (by rw [List.all_cons, hs.1, hs.2]; rfl)
    rw [this, k3]
    rfl
/-! ### methods -/
theorem base_ok {o : Expr} {m : Str} {e : PySem.Env} (h : plainBase o = true) : attributeBase o m e (eval o e) = eval o e := by
  cases o <;> first | rfl | cases h
theorem v_pop (hV : OkV G fV) (o : XOk G c d X) {e : Expr} {apos cpos : Pos} {m : Nat} {xs : List PV} {v : PV} {st1 : Store} (hb : plainBase e = true) (hl : apos.endLine = cpos.line) (h1 : fV d (compE k c e) env st = some (.val (.ref m), st1)) (h2 : st1[m]? = some (.lst xs)) (h3 : xs[xs.length - 1]? = some v) :
    PE X (.Call (.Attribute e "pop" apos) [] [] cpos) (tV X.K env st (.val v) (st1.set m (.lst xs.dropLast))) := by
  refine PE.weak (pe_bm0 PySem.F.plainAttrs_list PySem.F.slot_list_pop PySem.F.type_list_pop mt_pop (hV k c d X e env st _ st1 o h1) (base_ok hb) (by rw [hl]; simp)) fun σ H Q ⟨φ, sv, q⟩ => ⟨φ, sv, fun φ1 H1 u1 e1 s1 r1 f1 => ?_⟩
  obtain ⟨a, rfl, ha⟩ := RelP.ref_inv r1
  obtain ⟨vs, hv, rv⟩ := s1.at_ m _ a h2 ha
  refine ⟨.inl ⟨rfl, vs, .inl (.inl hv)⟩, ?_⟩
  obtain ⟨w, h4, h5⟩ := rv.get h3
  have kp : Keeps H1 (upd H1 a (.lst vs.dropLast)) := .upd hv trivial
  refine ⟨a, vs, w, rfl, rfl, hv, by rw [← rv.length]; exact h4, ?_⟩
  exact q φ1 _ w (e1.trans (.write ha hv trivial)) (s1.write (List.getElem?_eq_some_iff.mp h2).1 ha hv trivial ⟨_, upd_same, (rv.dropLast).keep kp⟩) (h5.keep kp) trivial
theorem v_append (hV : OkV G fV) (o : XOk G c d X) {e a : Expr} {apos cpos : Pos} {m : Nat} {xs : List PV} {v : PV} {st1 st2 : Store} (hb : plainBase e = true) (hs : notStar a = true) (hl : apos.endLine = cpos.line) (h1 : fV d (compE k c e) env st = some (.val (.ref m), st1))
    (h2 : evE (fun e s => fV d e env s) (compE k c a) st1 = some (v, st2)) (h3 : st2[m]? = some (.lst xs)) (h4 : xs.length < lim) (h5 : ∃ ys, st1[m]? = some (.lst ys)) :
    PE X (.Call (.Attribute e "append" apos) [a] [] cpos) (tV X.K env st (.val .non) (st2.set m (.lst (xs ++ [v])))) := by
  have ha := pa_E (k := k) (es := [a]) (st' := st2) (vs := [v]) hV o (by rw [List.all_cons, hs]; rfl) (by
    show (evE (fun e s => fV d e env s) (compE k c a) st1).bind _ = _
    rw [h2]
    rfl)
  refine PE.weak (pe_bm PySem.F.plainAttrs_list PySem.F.slot_list_append PySem.F.type_list_append mt_append (hV k c d X e env st _ st1 o h1) ha (base_ok hb) ?_ (by rw [hl]; simp) (star_cons hs) rfl) fun σ H Q ⟨φ, sv, q⟩ => ⟨φ, sv, fun φ1 H1 u1 e1 s1 r1 f1 => ?_⟩
  · rw [star_all (by rw [List.all_cons, hs]; rfl)]
    rfl
  · obtain ⟨b, rfl, hb⟩ := RelP.ref_inv r1
    obtain ⟨ys, h5⟩ := h5
    obtain ⟨ws, hw, rw'⟩ := s1.at_ m _ b h5 hb
    refine ⟨.inl ⟨rfl, ws, .inl (.inl hw)⟩, φ1, sv.mono e1 s1, fun φ2 H2 us e2 s2 r2 => ?_⟩
    cases r2 with
    | cons r2 r3 =>
      cases r3
      have hb2 := e2.get hb
      obtain ⟨vs, hv, rv⟩ := s2.at_ m _ b h3 hb2
      refine ⟨b, vs, _, rfl, rfl, hv, by rw [← rv.length]; exact lim_lt h4, ?_⟩
      have kp : ∀ o, Keeps H2 (upd H2 b o) := fun o => .upd hv trivial
      exact q φ2 _ .non ((e1.trans e2).trans (.write hb2 hv trivial)) (s2.write (List.getElem?_eq_some_iff.mp h3).1 hb2 hv trivial ⟨_, upd_same, (rv.append (.cons r2 .nil)).keep (kp _)⟩) .non trivial
end
end MI
end
section
set_option Elab.async false
set_option linter.all false
set_option maxRecDepth 100000
set_option maxHeartbeats 4000000
/-! MI8: what is walked; comprehensions. -/
namespace MI
open PySem PySem.Spec PyProof.Rows L2
def WalkR (K : PySem.W.Frag) (J : It) (src : Src) (φ1 : List Addr) (H1 : Hp) : Prop := ∀ (i : Nat) φ2 H2 st2, Evo φ1 φ2 H1 H2 → StR K φ2 H2 st2 →
  (src.at st2 i = some none → J.stop i H2) ∧ ∀ v, src.at st2 i = some (some v) → J.go i H2 ∧ ∀ x H3, J.yld i H2 x H3 → Evo φ2 φ2 H2 H3 ∧ RelP K φ2 H3 v x ∧ StR K φ2 H3 st2
def tI (K : PySem.W.Frag) (env : Env) (st : Store) (src : Src) (st' : Store) : TI := fun σ H R => ∃ φ, SV K φ σ H env st ∧ ∀ φ1 H1 J, Evo φ φ1 H H1 → StR K φ1 H1 st' → WalkR K J src φ1 H1 → R J H1
theorem PI.weak {X : Cx} {tg e : Expr} {t t' : TI} (h : PI X tg e t) (w : ∀ σ H Q, t' σ H Q → t σ H Q) : PI X tg e t' := ⟨fun pins s σ H Q I q => h.run pins s σ H Q I (w σ H Q q)⟩
section
variable {K : PySem.W.Frag} {φ1 : List Addr} {H1 : Hp} {st : Store}
/-- a list that stands still: new, or frozen -/
theorem walk_still {p : Addr} {xs : List PV} {vs : List V} (hs : ∀ φ2 H2, Evo φ1 φ2 H1 H2 → SqL K H2 p vs) (hr : RelPs K φ1 H1 xs vs) : WalkR K (Itl K p) (.items xs) φ1 H1 := by
  intro i φ2 H2 st2 e s
  have hl := hs φ2 H2 e
  have hr2 := hr.mono e
  refine ⟨fun q => ⟨vs, hl, ?_⟩, fun v q => ?_⟩
  · have q' : xs[i]? = none := Option.some.inj q
    rw [List.getElem?_eq_none_iff] at q'
    rw [← hr2.length]
    exact q'
  · have q' : xs[i]? = some v := Option.some.inj q
    obtain ⟨u, h1, h2⟩ := hr2.get q'
    refine ⟨⟨vs, u, hl, h1⟩, fun x H3 y => ?_⟩
    obtain ⟨rfl, y⟩ := y
    have := y vs hl
    rw [h1] at this
    cases this
    exact ⟨.refl _ _, h2, s⟩
theorem walk_cell {n : Nat} {a : Addr} (ha : φ1[n]? = some a) : WalkR K (Itl K a) (.cell n) φ1 H1 := by
  intro i φ2 H2 st2 e s
  have ha2 := e.get ha
  have at_ : ∀ o, (Src.cell n).at st2 i = some o → ∃ xs vs, st2[n]? = some (.lst xs) ∧ H2 a = some (.lst vs) ∧ RelPs K φ2 H2 xs vs ∧ xs[i]? = o := by
    intro o q
    have q' : (match st2[n]? with | some (.lst xs) => some xs[i]? | _ => none) = some o := q
    cases z : st2[n]? with
    | none => rw [z] at q'; cases q'
    | some c =>
      rw [z] at q'
      cases c with
      | dct _ => cases q'
      | lst xs =>
        obtain ⟨vs, h1, h2⟩ := s.at_ n _ a z ha2
        exact ⟨xs, vs, rfl, h1, h2, Option.some.inj q'⟩
  refine ⟨fun q => ?_, fun v q => ?_⟩
  · obtain ⟨xs, vs, h1, h2, h3, h4⟩ := at_ _ q
    refine ⟨vs, .inl (.inl h2), ?_⟩
    rw [← h3.length]
    exact List.getElem?_eq_none_iff.mp h4
  · obtain ⟨xs, vs, h1, h2, h3, h4⟩ := at_ _ q
    obtain ⟨u, h5, h6⟩ := h3.get h4
    refine ⟨⟨vs, u, .inl (.inl h2), h5⟩, fun x H3 y => ?_⟩
    obtain ⟨rfl, y⟩ := y
    have := y vs (.inl (.inl h2))
    rw [h5] at this
    cases this
    exact ⟨.refl _ _, h6, s⟩
theorem walk_tupR {p : Addr} {xs : List PV} {vs : List V} (hs : SqT K H1 p vs) (hr : RelPs K φ1 H1 xs vs) : WalkR K (Itt K p) (.items xs) φ1 H1 := by
  intro i φ2 H2 st2 e s
  have hl := e.sqT hs
  have hr2 := hr.mono e
  refine ⟨fun q => ⟨vs, hl, ?_⟩, fun v q => ?_⟩
  · have q' : xs[i]? = none := Option.some.inj q
    rw [List.getElem?_eq_none_iff] at q'
    rw [← hr2.length]
    exact q'
  · have q' : xs[i]? = some v := Option.some.inj q
    obtain ⟨u, h1, h2⟩ := hr2.get q'
    refine ⟨⟨vs, u, hl, h1⟩, fun x H3 y => ?_⟩
    obtain ⟨rfl, y⟩ := y
    have := y vs hl
    rw [h1] at this
    cases this
    exact ⟨.refl _ _, h2, s⟩
theorem walk_rng {lo : Int} {n : Nat} {xs : List PV} (hx : ∀ i, xs[i]? = if i < n then some (.int (lo + (i : Nat))) else none) : WalkR K (Itr lo n) (.items xs) φ1 H1 := by
  intro i φ2 H2 st2 e s
  refine ⟨fun q => ?_, fun v q => ?_⟩
  · have q' : xs[i]? = none := Option.some.inj q
    rw [hx] at q'
    by_cases h : i < n
    · rw [if_pos h] at q'; cases q'
    · exact Nat.le_of_not_lt h
  · have q' : xs[i]? = some v := Option.some.inj q
    rw [hx] at q'
    by_cases h : i < n
    · rw [if_pos h] at q'
      cases q'
      refine ⟨h, fun x H3 y => ?_⟩
      obtain ⟨rfl, rfl⟩ := y
      exact ⟨.refl _ _, .int _, s⟩
    · rw [if_neg h] at q'; cases q'
/-- pairs of items of two seqs that stand still -/
theorem pair_new {φ2 : List Addr} {H2 : Hp} {st2 : Store} {T : Addr} {a b : PV} {x y : V} (s : StR K φ2 H2 st2) (hT : H2 T = none) (ra : RelP K φ2 H2 a x) (rb : RelP K φ2 H2 b y) :
    Evo φ2 φ2 H2 (upd H2 T (.tup [x, y])) ∧ RelP K φ2 (upd H2 T (.tup [x, y])) (.tup [a, b]) (.ref T) ∧ StR K φ2 (upd H2 T (.tup [x, y])) st2 :=
  ⟨.new hT, .tup (.inl (.inl upd_same)) (.cons (ra.mono (.new hT)) (.cons (rb.mono (.new hT)) .nil)), s.new hT⟩
theorem zip_get : ∀ {xs ys : List PV} {i : Nat}, ((xs.zip ys).map fun z => PV.tup [z.1, z.2])[i]? = (xs[i]?.bind fun a => ys[i]?.map fun b => PV.tup [a, b])
  | [], _, i => by simp
  | x :: xs, [], i => by cases i <;> simp
  | x :: xs, y :: ys, 0 => by simp
  | x :: xs, y :: ys, i + 1 => by
    have := zip_get (xs := xs) (ys := ys) (i := i)
    simpa using this
theorem enum_get {xs : List PV} {i : Nat} : ((xs.zipIdx).map fun z => PV.tup [.int (z.2 : Nat), z.1])[i]? = xs[i]?.map fun a => PV.tup [.int (i : Nat), a] := by
  rw [List.getElem?_map, List.getElem?_zipIdx]
  cases xs[i]? <;> simp
theorem zip_turn {Sq : Hp → Addr → List V → Prop} {J : It} {pa pb : Addr} {xs ys : List PV} {vs ws : List V}
    (hgo : ∀ i H x y, Sq H pa vs → Sq H pb ws → vs[i]? = some x → ws[i]? = some y → J.go i H) (hstop : ∀ i H, Sq H pa vs → Sq H pb ws → (vs.length ≤ i ∨ ws.length ≤ i) → J.stop i H)
    (hy : ∀ i H v H', J.yld i H v H' → ∃ T x y, v = .ref T ∧ H T = none ∧ H' = upd H T (.tup [x, y]) ∧ (∀ xs, Sq H pa xs → xs[i]? = some x) ∧ ∀ ys, Sq H pb ys → ys[i]? = some y)
    (h1 : ∀ φ2 H2, Evo φ1 φ2 H1 H2 → Sq H2 pa vs ∧ Sq H2 pb ws) (ra : RelPs K φ1 H1 xs vs) (rb : RelPs K φ1 H1 ys ws) : WalkR K J (.items ((xs.zip ys).map fun z => .tup [z.1, z.2])) φ1 H1 := by
  intro i φ2 H2 st2 e s
  obtain ⟨ha, hb⟩ := h1 φ2 H2 e
  have ra2 := ra.mono e
  have rb2 := rb.mono e
  refine ⟨fun q => ?_, fun v q => ?_⟩
  · have q' : ((xs.zip ys).map fun z => PV.tup [z.1, z.2])[i]? = none := Option.some.inj q
    refine hstop i H2 ha hb ?_
    rw [List.getElem?_eq_none_iff, List.length_map, List.length_zip] at q'
    rw [← ra2.length, ← rb2.length]
    omega
  · have q' : ((xs.zip ys).map fun z => PV.tup [z.1, z.2])[i]? = some v := Option.some.inj q
    rw [zip_get] at q'
    obtain ⟨a, q1, q2⟩ := Option.bind_eq_some_iff.mp q'
    obtain ⟨b, q3, rfl⟩ := Option.map_eq_some_iff.mp q2
    obtain ⟨x, x1, x2⟩ := ra2.get q1
    obtain ⟨y, y1, y2⟩ := rb2.get q3
    refine ⟨hgo i H2 x y ha hb x1 y1, fun v H3 yl => ?_⟩
    obtain ⟨T, x', y', rfl, hT, rfl, k1, k2⟩ := hy i H2 v H3 yl
    have e1 := k1 vs ha
    have e2 := k2 ws hb
    rw [x1] at e1
    rw [y1] at e2
    cases e1
    cases e2
    exact pair_new s hT x2 y2
theorem enum_turn {p : Addr} {xs : List PV} {vs : List V} (hs : ∀ φ2 H2, Evo φ1 φ2 H1 H2 → SqL K H2 p vs) (hr : RelPs K φ1 H1 xs vs) : WalkR K (Ite K p) (.items ((xs.zipIdx).map fun z => .tup [.int (z.2 : Nat), z.1])) φ1 H1 := by
  intro i φ2 H2 st2 e s
  have hl := hs φ2 H2 e
  have hr2 := hr.mono e
  refine ⟨fun q => ⟨vs, hl, ?_⟩, fun v q => ?_⟩
  · have q' : ((xs.zipIdx).map fun z => PV.tup [.int (z.2 : Nat), z.1])[i]? = none := Option.some.inj q
    rw [List.getElem?_eq_none_iff, List.length_map, List.length_zipIdx] at q'
    rw [← hr2.length]
    exact q'
  · have q' : ((xs.zipIdx).map fun z => PV.tup [.int (z.2 : Nat), z.1])[i]? = some v := Option.some.inj q
    rw [enum_get] at q'
    obtain ⟨a, q1, rfl⟩ := Option.map_eq_some_iff.mp q'
    obtain ⟨x, x1, x2⟩ := hr2.get q1
    refine ⟨⟨vs, x, hl, x1⟩, fun v H3 yl => ?_⟩
    obtain ⟨T, x', rfl, hT, rfl, k1⟩ := yl
    have e1 := k1 vs hl
    rw [x1] at e1
    cases e1
    exact pair_new s hT (.int _) x2
end
section
variable {G : List Fn} {fV : Nat → IE → Env → Store → Option (RV × Store)} {fT : Nat → IE → Env → Store → Option (Bool × Store)} {k d n : Nat} {c : Cc} {X : Cx} {env : Env} {st st' : Store}
theorem rng_get {n : Nat} {lo : Int} (i : Nat) : ((List.range n).map fun (i : Nat) => PV.int (lo + (i : Int)))[i]? = if i < n then some (.int (lo + (i : Nat))) else none := by
  rw [List.getElem?_map]
  by_cases h : i < n
  · rw [if_pos h, List.getElem?_range h]
    rfl
  · rw [if_neg h, List.getElem?_eq_none (by simpa using h)]
    rfl
theorem ikOf_inv {it : Expr} (h : ikOf c it ≠ .seq) : ∃ f p es pos b, it = .Call (.Name f p) es [] pos ∧ gloB c.sc f = true ∧ es.all notStar = true ∧ 0 < es.length ∧ c.bis.lookup f = some b ∧ itArgs (ikOf c it) it = es ∧
    ((b = .range ∧ ikOf c it = .rng) ∨ (b = .zip ∧ ikOf c it = .zip) ∨ (b = .enum ∧ ikOf c it = .enum)) := by
  unfold ikOf at h ⊢
  split at h
  · rename_i f p args pos
    cases hc : (gloB c.sc f && (args.all notStar && decide (0 < args.length))) with
    | false => rw [hc] at h; exact absurd rfl h
    | true =>
      have h1 := Bool.and_eq_true_iff.mp hc
      have h2 := Bool.and_eq_true_iff.mp h1.2
      rw [hc] at h
      cases hb : c.bis.lookup f with
      | none => rw [hb] at h; exact absurd rfl h
      | some b =>
        refine ⟨f, p, args, pos, b, rfl, h1.1, h2.1, of_decide_eq_true h2.2, hb, ?_, ?_⟩
        · rw [hb] at h
          cases b <;> first | rfl | exact absurd rfl h
        · rw [hb] at h
          cases b <;> first | exact .inl ⟨rfl, rfl⟩ | exact .inr (.inl ⟨rfl, rfl⟩) | exact .inr (.inr ⟨rfl, rfl⟩) | exact absurd rfl h
  · exact absurd rfl h
theorem it_ok (hV : OkV G fV) (o : XOk G c d X) {tg it : Expr} {src : Src} (hf : tgFits tg (ikOf c it) = true) (h : iterOf (fun e s => fV d e env s) (ikOf c it) ((itArgs (ikOf c it) it).map (compE k c)) st = some (src, st')) : PI X tg it (tI X.K env st src st') := by
  obtain ⟨⟨xs, st1⟩, h1, h2⟩ := Option.bind_eq_some_iff.mp h
  obtain ⟨src', h3, h4⟩ := Option.map_eq_some_iff.mp h2
  cases h4
  by_cases hik : ikOf c it = .seq
  · rw [hik] at h1 h3
    have h1' : (fV d (compE k c it) env st).bind (fun (v, st2) => some ([v], st2)) = some (xs, st') := h1
    obtain ⟨⟨r, st2⟩, h5, h6⟩ := Option.bind_eq_some_iff.mp h1'
    cases (Option.some.inj h6)
    have p := hV k c d X it env st r st' o h5
    have h3' : srcOf r st' = some src := h3
    unfold srcOf at h3'
    split at h3'
    · cases (Option.some.inj h3')
      refine PI.weak (pi_list p) fun σ H R ⟨φ, sv, q⟩ => ⟨φ, sv, fun φ1 H1 u e s r f => ?_⟩
      obtain ⟨p, vs, rfl, hp, hn, hr⟩ := r
      exact ⟨p, rfl, ⟨vs, .inl (.inl hp)⟩, q φ1 H1 _ e s (walk_still (fun φ2 H2 e2 => .inl (.inl (e2.out p _ hp hn))) hr)⟩
    · cases (Option.some.inj h3')
      refine PI.weak (pi_tup p) fun σ H R ⟨φ, sv, q⟩ => ⟨φ, sv, fun φ1 H1 u e s r f => ?_⟩
      obtain ⟨p, vs, rfl, hp, hr⟩ := RelP.tup_inv r
      exact ⟨p, rfl, ⟨vs, hp⟩, q φ1 H1 _ e s (walk_tupR hp hr)⟩
    · cases (Option.some.inj h3')
      refine PI.weak (pi_list p) fun σ H R ⟨φ, sv, q⟩ => ⟨φ, sv, fun φ1 H1 u e s r f => ?_⟩
      cases r with
      | frz ha hr =>
        have hs : ∀ φ2 H2, Evo φ1 φ2 H1 H2 → SqL X.K H2 _ _ := fun φ2 H2 e2 => ha.elim (fun ⟨o, z⟩ => .inl (.inr ⟨o, e2.frz _ _ _ z⟩)) fun z => z H2
        exact ⟨_, rfl, ⟨_, hs φ1 H1 (.refl _ _)⟩, q φ1 H1 _ e s (walk_still hs hr)⟩
    · rename_i m
      split at h3'
      · rename_i ys hm
        cases (Option.some.inj h3')
        refine PI.weak (pi_list p) fun σ H R ⟨φ, sv, q⟩ => ⟨φ, sv, fun φ1 H1 u e s r f => ?_⟩
        obtain ⟨a, rfl, ha⟩ := RelP.ref_inv r
        obtain ⟨vs, hv, _⟩ := s.at_ m _ a hm ha
        exact ⟨a, rfl, ⟨vs, .inl (.inl hv)⟩, q φ1 H1 _ e s (walk_cell ha)⟩
      · cases h3'
    · cases h3'
  · obtain ⟨f, p, es, pos, b, rfl, g1, g2, g3, g4, g5, g6⟩ := ikOf_inv hik
    obtain ⟨b1, b2, b3, b4, b5⟩ := o.bis f b g4
    have gl : Gl X f := by
      show X.env.scope.names.lookup f = _
      rw [o.sc]
      exact glo_of g1
    rw [g5] at h1
    have ha := pa_V hV o g2 h1
    rcases g6 with ⟨rfl, g6⟩ | ⟨rfl, g6⟩ | ⟨rfl, g6⟩
    · have ef : f = "range" := b1
      subst ef
      rw [g6] at h3
      unfold ikSrc at h3
      split at h3
      · rename_i e1; cases e1
      · rename_i m e1
        obtain ⟨hc, rfl⟩ := bif_some h3
        have hc2 := Bool.and_eq_true_iff.mp hc
        have hb1 := of_decide_eq_true hc2.1
        have hb2 := of_decide_eq_true hc2.2
        have hl : es.length = 1 := by
          have := evL_length h1
          rw [List.length_map] at this
          exact this.symm
        obtain ⟨x, rfl⟩ : ∃ x, es = [x] := by
          cases es with
          | nil => cases hl
          | cons x es => cases es with
            | nil => exact ⟨x, rfl⟩
            | cons _ _ => cases hl
        refine PI.weak (pi_range1 gl b2 ha (star_cons (by simpa using g2))) fun σ H R ⟨φ, sv, q⟩ => ⟨φ, sv, fun φ1 H1 us e s r => ?_⟩
        cases r with
        | cons r r2 =>
          cases r2
          rw [RelP.int_inv r]
          refine ⟨m, rfl, hb2, hb1, q φ1 H1 _ e s (walk_rng fun i => ?_)⟩
          have := rng_get (n := m.toNat) (lo := 0) i
          simpa using this
      · rename_i a b e1
        obtain ⟨hc, rfl⟩ := bif_some h3
        have hc1 := Bool.and_eq_true_iff.mp hc
        have hc2 := Bool.and_eq_true_iff.mp hc1.1
        have hc3 := Bool.and_eq_true_iff.mp hc1.2
        have hl : es.length = 2 := by
          have := evL_length h1
          rw [List.length_map] at this
          exact this.symm
        obtain ⟨x, y, rfl⟩ : ∃ x y, es = [x, y] := by
          cases es with
          | nil => cases hl
          | cons x es => cases es with
            | nil => cases hl
            | cons y es => cases es with
              | nil => exact ⟨x, y, rfl⟩
              | cons _ _ => cases hl
        rw [List.all_cons, Bool.and_eq_true] at g2
        refine PI.weak (pi_range2 gl b2 ha (by rw [star_cons g2.1, star_cons (by simpa using g2.2)]; rfl) (star_cons (by simpa using g2.2))) fun σ H R ⟨φ, sv, q⟩ => ⟨φ, sv, fun φ1 H1 us e s r => ?_⟩
        cases r with
        | cons r r2 =>
          cases r2 with
          | cons r2 r3 =>
            cases r3
            rw [RelP.int_inv r, RelP.int_inv r2]
            exact ⟨a, b, rfl, ⟨of_decide_eq_true hc2.2, of_decide_eq_true hc2.1, of_decide_eq_true hc3.2, of_decide_eq_true hc3.1⟩, q φ1 H1 _ e s (walk_rng fun i => rng_get i)⟩
      · rename_i e1; cases e1
      · rename_i e1; cases e1
      · cases h3
    · have ef : f = "zip" := b1
      subst ef
      rw [g6] at h3 hf
      have ht : ∃ elts kk tpos, tg = .Tuple elts kk tpos := by
        cases tg <;> first | exact ⟨_, _, _, rfl⟩ | cases hf
      obtain ⟨elts, kk, tpos, rfl⟩ := ht
      unfold ikSrc at h3
      split at h3
      · rename_i e1; cases e1
      · rename_i e1; cases e1
      · rename_i e1; cases e1
      · rename_i x y e1
        obtain ⟨⟨la, as⟩, ha1, h6⟩ := Option.bind_eq_some_iff.mp h3
        obtain ⟨⟨lb, bs⟩, hb1, h7⟩ := Option.bind_eq_some_iff.mp h6
        obtain ⟨hc, rfl⟩ := bif_some h7
        have hc2 : la = lb := beq_iff_eq.mp hc
        subst hc2
        have hl : es.length = 2 := by
          have := evL_length h1
          rw [List.length_map] at this
          exact this.symm
        obtain ⟨e1, e2, rfl⟩ : ∃ x y, es = [x, y] := by
          cases es with
          | nil => cases hl
          | cons x es => cases es with
            | nil => cases hl
            | cons y es => cases es with
              | nil => exact ⟨x, y, rfl⟩
              | cons _ _ => cases hl
        rw [List.all_cons, Bool.and_eq_true] at g2
        refine PI.weak (RZ.pi_zipA gl b2 ha (star_cons g2.1) (star_any g2.2)) fun σ H R ⟨φ, sv, q⟩ => ⟨φ, sv, fun φ1 H1 us e s r => ?_⟩
        cases r with
        | cons r r2 =>
          cases r2 with
          | cons r2 r3 =>
            cases r3
            unfold tupOnly at ha1 hb1
            cases la with
            | false =>
              split at ha1
              · split at hb1
                · cases (Option.some.inj ha1)
                  cases (Option.some.inj hb1)
                  obtain ⟨p, vs, rfl, hp, hr⟩ := RelP.tup_inv r
                  obtain ⟨p', vs', rfl, hp', hr'⟩ := RelP.tup_inv r2
                  refine ⟨p, p', vs, vs', rfl, .inr ⟨hp, hp', q φ1 H1 _ e s (zip_turn (Sq := fun H a xs => SqT X.K H a xs) (fun i H x y h1 h2 h3 h4 => ⟨vs, vs', x, y, h1, h2, h3, h4⟩) (fun i H h1 h2 h3 => ⟨vs, vs', h1, h2, h3⟩) (fun i H v H' h => h) (fun φ2 H2 e2 => ⟨e2.sqT hp, e2.sqT hp'⟩) hr hr')⟩⟩
                · cases (Option.some.inj hb1)
                · cases hb1
              · cases (Option.some.inj ha1)
              · cases ha1
            | true =>
              split at ha1
              · cases (Option.some.inj ha1)
              · split at hb1
                · cases (Option.some.inj hb1)
                · cases (Option.some.inj ha1)
                  cases (Option.some.inj hb1)
                  obtain ⟨p, vs, rfl, hp, hn, hr⟩ := r
                  obtain ⟨p', vs', rfl, hp', hn', hr'⟩ := r2
                  refine ⟨p, p', vs, vs', rfl, .inl ⟨.inl (.inl hp), .inl (.inl hp'), q φ1 H1 _ e s (zip_turn (Sq := fun H a xs => SqL X.K H a xs) (fun i H x y h1 h2 h3 h4 => ⟨vs, vs', x, y, h1, h2, h3, h4⟩) (fun i H h1 h2 h3 => ⟨vs, vs', h1, h2, h3⟩) (fun i H v H' h => h) (fun φ2 H2 e2 => ⟨.inl (.inl (e2.out p _ hp hn)), .inl (.inl (e2.out p' _ hp' hn'))⟩) hr hr')⟩⟩
                · cases hb1
              · cases ha1
      · rename_i e1; cases e1
      · cases h3
    · have ef : f = "enumerate" := b1
      subst ef
      rw [g6] at h3 hf
      have ht : ∃ elts kk tpos, tg = .Tuple elts kk tpos := by
        cases tg <;> first | exact ⟨_, _, _, rfl⟩ | cases hf
      obtain ⟨elts, kk, tpos, rfl⟩ := ht
      unfold ikSrc at h3
      split at h3
      · rename_i e1; cases e1
      · rename_i e1; cases e1
      · rename_i e1; cases e1
      · rename_i e1; cases e1
      · rename_i x e1
        obtain ⟨⟨la, as⟩, ha1, h6⟩ := Option.bind_eq_some_iff.mp h3
        obtain ⟨hc, rfl⟩ := bif_some h6
        have hl : es.length = 1 := by
          have := evL_length h1
          rw [List.length_map] at this
          exact this.symm
        obtain ⟨e1, rfl⟩ : ∃ x, es = [x] := by
          cases es with
          | nil => cases hl
          | cons x es => cases es with
            | nil => exact ⟨x, rfl⟩
            | cons _ _ => cases hl
        refine PI.weak (pi_enum gl b2 ha (star_cons (by simpa using g2))) fun σ H R ⟨φ, sv, q⟩ => ⟨φ, sv, fun φ1 H1 us e s r => ?_⟩
        cases r with
        | cons r r2 =>
          cases r2
          unfold tupOnly at ha1
          split at ha1
          · cases (Option.some.inj ha1)
            cases hc
          · cases (Option.some.inj ha1)
            obtain ⟨p, vs, rfl, hp, hn, hr⟩ := r
            exact ⟨p, vs, rfl, .inl (.inl hp), q φ1 H1 _ e s (enum_turn (fun φ2 H2 e2 => .inl (.inl (e2.out p _ hp hn))) hr)⟩
          · cases ha1
      · cases h3
end
end MI
end
section
set_option Elab.async false
set_option linter.all false
set_option maxRecDepth 100000
set_option maxHeartbeats 4000000
/-! MI9: targets, comprehensions. -/
namespace MI
open PySem PySem.Spec PyProof.Rows L2
/-! ### targets -/
def gNames : List Nat → TGs
  | [] => gNil
  | i :: is => gCons (gName i) (gNames is)
def gT (K : PySem.W.Frag) : Tg → TG
  | .name i => gName i
  | .tup is => gTup K is.length (gNames is)
def setsS : L2.St → List Nat → List V → L2.St
  | σ, i :: is, v :: vs => setsS (σ.set i (some v)) is vs
  | σ, _, _ => σ
section
variable {K : PySem.W.Frag} {φ : List Addr} {σ : L2.St} {H : Hp} {env env1 : Env} {st : Store}
theorem SV.set (sv : SV K φ σ H env st) {v : PV} {u : V} (r : RelP K φ H v u) (i : Nat) : SV K φ (σ.set i (some u)) H (env.set i (some v)) st := by
  refine ⟨fun j w h => ?_, sv.st, by rw [List.length_set, List.length_set, sv.len]⟩
  by_cases e : i = j
  · subst e
    by_cases hi : i < env.length
    · rw [List.getElem?_set_self hi] at h
      cases h
      exact ⟨u, by rw [List.getElem?_set_self (by rw [sv.len]; exact hi)], r⟩
    · rw [List.getElem?_eq_none (by rw [List.length_set]; omega)] at h
      cases h
  · rw [List.getElem?_set_ne e] at h
    obtain ⟨x, h1, h2⟩ := sv.at_ j w h
    exact ⟨x, by rw [List.getElem?_set_ne e]; exact h1, h2⟩
theorem SV.sets : ∀ {is : List Nat} {vs : List PV} {us : List V} {σ : L2.St} {env env1 : Env}, SV K φ σ H env st → RelPs K φ H vs us → setT env is vs = some env1 → SV K φ (setsS σ is us) H env1 st
  | [], [], us, σ, env, env1, sv, r, h => by
    cases (Option.some.inj h)
    cases r
    exact sv
  | [], _ :: _, us, σ, env, env1, sv, r, h => by cases h
  | _ :: _, [], us, σ, env, env1, sv, r, h => by cases h
  | i :: is, v :: vs, us, σ, env, env1, sv, r, h => by
    cases r with
    | cons r rs =>
      have z := SV.sets (sv.set r i) rs h
      unfold setsS
      exact z
theorem gNames_go : ∀ {is : List Nat} {us : List V} {σ : L2.St} {Q : L2.St → Hp → Prop}, is.length = us.length → Q (setsS σ is us) H → gNames is us σ H Q
  | [], [], σ, Q, _, q => ⟨rfl, q⟩
  | [], _ :: _, σ, Q, h, _ => by cases h
  | _ :: _, [], σ, Q, h, _ => by cases h
  | i :: is, u :: us, σ, Q, h, q => ⟨u, us, rfl, gNames_go (Nat.succ.inj h) q⟩
theorem setT_len : ∀ {is : List Nat} {vs : List PV} {env env1 : Env}, setT env is vs = some env1 → is.length = vs.length
  | [], [], _, _, _ => rfl
  | [], _ :: _, _, _, h => by cases h
  | _ :: _, [], _, _, h => by cases h
  | i :: is, v :: vs, env, env1, h => by rw [List.length_cons, List.length_cons, setT_len (is := is) (vs := vs) h]
/-- the slots that a target writes -/
def tgSlots : Tg → List Nat
  | .name i => [i]
  | .tup is => is
theorem gT_go {tg : Tg} {v : PV} {x : V} {Q : L2.St → Hp → Prop} (sv : SV K φ σ H env st) (r : RelP K φ H v x) (h : setTg env tg v = some env1) (q : ∀ us, us.length = (tgSlots tg).length → SV K φ (setsS σ (tgSlots tg) us) H env1 st → Q (setsS σ (tgSlots tg) us) H) : gT K tg x σ H Q := by
  cases tg with
  | name i =>
    cases (Option.some.inj h)
    exact q [x] rfl (sv.set r i)
  | tup is =>
    cases v with
    | tup vs =>
      obtain ⟨a, us, rfl, ha, hr⟩ := RelP.tup_inv r
      have hl : is.length = us.length := by rw [← hr.length]; exact setT_len h
      exact ⟨a, us, rfl, ha, hl.symm, gNames_go hl (q us hl.symm (sv.sets hr h))⟩
    | _ => cases h
end
theorem allSome_map {α β : Type} {f : α → Option β} : ∀ {l : List α} {r : List β}, allSome (l.map f) = some r → l.length = r.length ∧ ∀ a ∈ l, ∃ b, f a = some b
  | [], r, h => by cases (Option.some.inj h); exact ⟨rfl, fun _ h => nomatch h⟩
  | a :: l, r, h => by
    rw [List.map_cons] at h
    cases e : f a with
    | none => rw [e] at h; cases h
    | some b =>
      rw [e] at h
      obtain ⟨r', h1, h2⟩ := Option.map_eq_some_iff.mp h
      subst h2
      obtain ⟨i1, i2⟩ := allSome_map h1
      refine ⟨by rw [List.length_cons, List.length_cons, i1], fun x hx => ?_⟩
      rcases List.mem_cons.mp hx with rfl | hx
      · exact ⟨b, e⟩
      · exact i2 x hx
/-- a row of names as a target -/
theorem pgs_of {X : Cx} {N : List Str} {P : Str → Bool} (hX : X.N = N) (hN : N.Nodup) (hP : ∀ x, P x = true → L2.Loc X.env.scope x ∧ (X.fn x = true ∨ X.env.scope.names.lookup x = some .local)) :
    ∀ {es : List Expr} {is : List Nat}, allSome (es.map fun e => match e with | .Name x _ => bif P x then slotOf N x else none | _ => none) = some is →
      PGs X es (gNames is) ∧ (assignEach es X.env).length = is.length ∧ (assignEach es X.env).findIdx? (·.1) = none
  | [], is, h => by
    cases (Option.some.inj h)
    exact ⟨pgs_nil, rfl, rfl⟩
  | e :: es, is, h => by
    rw [List.map_cons] at h
    cases e with
    | Name x p =>
      cases hp : P x with
      | false =>
        dsimp only at h
        rw [hp] at h
        cases h
      | true =>
        dsimp only at h
        rw [hp] at h
        cases hs : slotOf N x with
        | none => rw [hs] at h; cases h
        | some i =>
          rw [hs] at h
          obtain ⟨is', h1, h2⟩ := Option.map_eq_some_iff.mp h
          subst h2
          obtain ⟨g1, g2, g3⟩ := pgs_of hX hN hP h1
          obtain ⟨k1, k2⟩ := hP x hp
          refine ⟨pgs_cons (pg_name (by rw [hX]; exact hN) (by rw [hX]; exact slot_get hs) k1 k2) g1, ?_, ?_⟩
          · show (assignEach es X.env).length + 1 = is'.length + 1
            rw [g2]
          · show ((false, assign (Expr.Name x p) X.env) :: assignEach es X.env).findIdx? (·.1) = none
            rw [List.findIdx?_cons, g3]
            rfl
    | _ => cases h
theorem pg_of {X : Cx} {N : List Str} {P : Str → Bool} (hX : X.N = N) (hN : N.Nodup) (hc : X.calm = true) (hP : ∀ x, P x = true → L2.Loc X.env.scope x ∧ (X.fn x = true ∨ X.env.scope.names.lookup x = some .local)) {tg : Expr} {g : Tg}
    (h : (match tg with
      | .Name x _ => bif P x then (slotOf N x).map .name else none
      | .Tuple es _ _ => (allSome (es.map fun e => match e with
        | .Name x _ => bif P x then slotOf N x else none
        | _ => none)).map Tg.tup
      | _ => none) = some g) : PG X tg (gT X.K g) := by
  cases tg with
  | Name x p =>
    dsimp only at h
    cases hp : P x with
    | false => rw [hp] at h; cases h
    | true =>
      rw [hp] at h
      obtain ⟨i, h1, h2⟩ := Option.map_eq_some_iff.mp h
      subst h2
      obtain ⟨k1, k2⟩ := hP x hp
      exact pg_name (by rw [hX]; exact hN) (by rw [hX]; exact slot_get h1) k1 k2
  | Tuple es kk p =>
    dsimp only at h
    obtain ⟨is, h1, h2⟩ := Option.map_eq_some_iff.mp h
    subst h2
    obtain ⟨g1, g2, g3⟩ := pgs_of hX hN hP h1
    exact pg_tup hc g1 g2 g3
  | _ => cases h
/-! ### the block's slots -/
theorem wipeE_some {env : Env} {i : Nat} {x : PV} : ∀ {vs : List Nat}, (wipeE env vs)[i]? = some (some x) → env[i]? = some (some x) ∧ i ∉ vs
  | [], h => ⟨h, by simp⟩
  | v :: vs, h => by
    unfold wipeE at h
    by_cases hi : v = i
    · subst hi
      by_cases hv : v < (wipeE env vs).length
      · rw [List.getElem?_set_self hv] at h; cases h
      · rw [List.getElem?_eq_none (by simpa using hv)] at h; cases h
    · rw [List.getElem?_set_ne hi] at h
      obtain ⟨h1, h2⟩ := wipeE_some h
      exact ⟨h1, by simp only [List.mem_cons, not_or]; exact ⟨fun e => hi e.symm, h2⟩⟩
theorem wipeE_length (env : Env) : ∀ vs : List Nat, (wipeE env vs).length = env.length
  | [] => rfl
  | v :: vs => by unfold wipeE; rw [List.length_set, wipeE_length env vs]
theorem wipe_out {σ : L2.St} {i : Nat} : ∀ {vs : List Nat}, i ∉ vs → (wipe σ vs)[i]? = σ[i]?
  | [], _ => rfl
  | v :: vs, h => by
    simp only [List.mem_cons, not_or] at h
    unfold wipe
    rw [List.getElem?_set_ne (fun e => h.1 e.symm)]
    exact wipe_out h.2
theorem wipe_in {σ : L2.St} {i : Nat} : ∀ {vs : List Nat}, i ∈ vs → i < σ.length → (wipe σ vs)[i]? = some none
  | v :: vs, h, hl => by
    unfold wipe
    by_cases e : v = i
    · subst e
      rw [List.getElem?_set_self (by rw [wipe_length]; exact hl)]
    · rw [List.getElem?_set_ne e]
      rcases List.mem_cons.mp h with h | h
      · exact absurd h.symm e
      · exact wipe_in h hl
theorem wipe_ext {σ τ : L2.St} {vs : List Nat} (hl : σ.length = τ.length) (h : ∀ i, i ∉ vs → σ[i]? = τ[i]?) : wipe σ vs = wipe τ vs := by
  refine List.ext_getElem? fun i => ?_
  by_cases hi : i ∈ vs
  · by_cases hs : i < σ.length
    · rw [wipe_in hi hs, wipe_in hi (by rw [← hl]; exact hs)]
    · rw [List.getElem?_eq_none (by rw [wipe_length]; omega), List.getElem?_eq_none (by rw [wipe_length]; omega)]
  · rw [wipe_out hi, wipe_out hi, h i hi]
theorem setsS_length : ∀ {is : List Nat} {us : List V} {σ : L2.St}, (setsS σ is us).length = σ.length
  | [], us, σ => by unfold setsS; rfl
  | _ :: _, [], σ => by unfold setsS; rfl
  | i :: is, u :: us, σ => by unfold setsS; rw [setsS_length, List.length_set]
theorem setsS_out {j : Nat} : ∀ {is : List Nat} {us : List V} {σ : L2.St}, j ∉ is → (setsS σ is us)[j]? = σ[j]?
  | [], us, σ, _ => by unfold setsS; rfl
  | _ :: _, [], σ, _ => by unfold setsS; rfl
  | i :: is, u :: us, σ, h => by
    simp only [List.mem_cons, not_or] at h
    unfold setsS
    rw [setsS_out h.2, List.getElem?_set_ne (fun e => h.1 e.symm)]
theorem SV.wipe {K : PySem.W.Frag} {φ : List Addr} {σ : L2.St} {H : Hp} {env : Env} {st : Store} (sv : SV K φ σ H env st) (vs : List Nat) : SV K φ (L2.wipe σ vs) H (wipeE env vs) st := by
  refine ⟨fun i v h => ?_, sv.st, by rw [wipe_length, wipeE_length, sv.len]⟩
  obtain ⟨h1, h2⟩ := wipeE_some h
  obtain ⟨u, h3, h4⟩ := sv.at_ i v h1
  exact ⟨u, by rw [wipe_out h2]; exact h3, h4⟩
/-! ### comprehensions -/
section
variable {G : List Fn} {fV : Nat → IE → Env → Store → Option (RV × Store)} {fT : Nat → IE → Env → Store → Option (Bool × Store)} {k d n : Nat} {c : Cc} {X : Cx} {env : Env} {st st' : Store}
theorem XOk.blk (o : XOk G c d X) (scope : Scope) (s : Shared) (H : Hp) (C : Addr) (cl : List (Str × Addr)) (fp : List Addr) : XOk G { c with sc := relS scope c.sc } d (X.blk s H scope (compEnvC scope cl C X.env) fp) :=
  ⟨o.N, by rw [← o.sc]; rfl, o.nd, o.calm, o.room, o.nodbg, o.tys, o.csts, o.bis, o.fns⟩
theorem relS_loc {scope sc : Scope} {x : Str} (h : locB scope x = true) : L2.Loc (relS scope sc) x ∧ ((scope.names.lookup x == some .cell) = true ∨ (relS scope sc).names.lookup x = some .local) := by
  unfold locB at h
  split at h
  · rename_i e
    have := lookup_relS_keep (sc := sc) (k := .local) (by decide) e
    exact ⟨.inl this, .inr this⟩
  · rename_i e
    have := lookup_relS_keep (sc := sc) (k := .cell) (by decide) e
    exact ⟨.inr this, .inl (by rw [e]; rfl)⟩
  · cases h
theorem comp_core (hV : OkV G fV) (hT : OkT G fT) (o : XOk G c d X) {elt tg it : Expr} {ifs : List Expr} {scope : Scope} {g : Tg} {src : Src} {xs : List PV} {st1 : Store} (h1 : tgOfC c.N scope tg = some g) (h2 : notSet it = true) (h3 : blkC c.N c.sc scope (ownOf c.N scope) = true)
    (h4 : ifs.length ≤ 1) (h5 : tgIn ((ownOf c.N scope).map (·.2)) g = true) (h6 : tgFits tg (ikOf c it) = true) (h7 : iterOf (fun e s => fV d e env s) (ikOf c it) ((itArgs (ikOf c it) it).map (compE k c)) st = some (src, st1))
    (h8 : loopC (fV d) (fT d) (compE k { c with sc := relS scope c.sc } elt) g (ifs.map (testE tj (compE k { c with sc := relS scope c.sc }))) ((ownOf c.N scope).map (·.2)) env src n 0 [] st1 = some (xs, st')) :
    ∃ wi gg tt te, PI X tg it wi ∧ (∀ (s : Shared) (H : Hp) (C : Addr) (cl : List (Str × Addr)) (fp : List Addr), PG (X.blk s H scope (compEnvC scope cl C X.env) fp) tg gg) ∧ (∀ (s : Shared) (H : Hp) (C : Addr) (cl : List (Str × Addr)) (fp : List Addr), PTs (X.blk s H scope (compEnvC scope cl C X.env) fp) ifs tt) ∧
      (∀ (s : Shared) (H : Hp) (C : Addr) (cl : List (Str × Addr)) (fp : List Addr), PE (X.blk s H scope (compEnvC scope cl C X.env) fp) elt te) ∧ ∀ σ H Q, tV X.K env st (.new xs) st' σ H Q → tLc wi gg tt te ((ownOf c.N scope).map (·.2)) σ H Q := by
  have hg : ∀ (s : Shared) (H : Hp) (C : Addr) (cl : List (Str × Addr)) (fp : List Addr), PG (X.blk s H scope (compEnvC scope cl C X.env) fp) tg (gT X.K g) := fun s H C cl fp => by
    have e : (compEnvC scope cl C X.env).scope = relS scope X.env.scope := rfl
    refine pg_of (X := X.blk s H scope (compEnvC scope cl C X.env) fp) (P := locB scope) o.N o.nd o.calm (fun x hx => ?_) (g := g) ?_
    · have := relS_loc (sc := X.env.scope) hx
      exact this
    · unfold tgOfC at h1
      cases tg <;> exact h1
  let te : TE := fun σ H Q => ∃ t, (∀ (s : Shared) (H : Hp) (C : Addr) (cl : List (Str × Addr)) (fp : List Addr), PE (X.blk s H scope (compEnvC scope cl C X.env) fp) elt t) ∧ t σ H Q
  let tt : TT := fun σ H Q => ∃ t, (∀ (s : Shared) (H : Hp) (C : Addr) (cl : List (Str × Addr)) (fp : List Addr), PTs (X.blk s H scope (compEnvC scope cl C X.env) fp) ifs t) ∧ t σ H Q
  have he : ∀ (s : Shared) (H : Hp) (C : Addr) (cl : List (Str × Addr)) (fp : List Addr), PE (X.blk s H scope (compEnvC scope cl C X.env) fp) elt te := fun s H C cl fp => ⟨fun pins s' σ H' Q I ⟨t, ht, q⟩ => (ht s H C cl fp).run pins s' σ H' Q I q⟩
  have ht : ∀ (s : Shared) (H : Hp) (C : Addr) (cl : List (Str × Addr)) (fp : List Addr), PTs (X.blk s H scope (compEnvC scope cl C X.env) fp) ifs tt := fun s H C cl fp => ⟨fun pins s' σ H' Q I ⟨t, ht, q⟩ => (ht s H C cl fp).run pins s' σ H' Q I q⟩
  refine ⟨_, _, tt, te, it_ok hV o h6 h7, hg, ht, he, fun σ H Q ⟨φ, sv, q⟩ => ?_⟩
  refine ⟨φ, sv, fun φ1 H1 J e1 s1 wr => ?_⟩
  intro D hD
  generalize hown : (ownOf c.N scope).map (·.2) = own at *
  have hDφ : D ∉ φ1 := s1.nin hD
  refine ⟨fun i m H2 => ∃ acc st2 φ2 vacc, loopC (fV d) (fT d) (compE k { c with sc := relS scope c.sc } elt) g (ifs.map (testE tj (compE k { c with sc := relS scope c.sc }))) own env src m i acc st2 = some (xs, st') ∧ Evo φ1 φ2 H1 H2 ∧ StR X.K φ2 H2 st2 ∧ H2 D = some (.lst vacc) ∧ RelPs X.K φ2 H2 acc vacc ∧ D ∉ φ2, ⟨n, [], st1, φ1, [], h8, .new hD, s1.new hD, upd_same, .nil, hDφ⟩, ?_⟩
  rintro i m H2 ⟨acc, st2, φ2, vacc, hl, e2, s2, hd, hr, hn⟩
  cases m with
  | zero => cases hl
  | succ m =>
    obtain ⟨ov, hat, hl⟩ := Option.bind_eq_some_iff.mp (show (src.at st2 i).bind _ = some (xs, st') from hl)
    obtain ⟨w1, w2⟩ := wr i φ2 H2 st2 e2 s2
    cases ov with
    | none =>
      cases (Option.some.inj hl)
      refine .inl ⟨w1 hat, q φ2 H2 (.ref D) (e1.trans e2) s2 ⟨D, vacc, rfl, hd, hn, hr⟩ fun p hp => ?_⟩
      cases hp
      exact e1.free hD
    | some v =>
      obtain ⟨go, yl⟩ := w2 v hat
      obtain ⟨env1, hs, hl⟩ := Option.bind_eq_some_iff.mp hl
      obtain ⟨⟨b, st3⟩, hi, hl⟩ := Option.bind_eq_some_iff.mp hl
      refine .inr ⟨go, fun H3 => ∃ acc st2 φ2 vacc, loopC (fV d) (fT d) (compE k { c with sc := relS scope c.sc } elt) g (ifs.map (testE tj (compE k { c with sc := relS scope c.sc }))) own env src m (i + 1) acc st2 = some (xs, st') ∧ Evo φ1 φ2 H1 H3 ∧ StR X.K φ2 H3 st2 ∧ H3 D = some (.lst vacc) ∧ RelPs X.K φ2 H3 acc vacc ∧ D ∉ φ2, fun H' p => ⟨m, Nat.lt_succ_self m, p⟩, fun x H3 y => ?_⟩
      obtain ⟨e3, rv, s3⟩ := yl x H3 y
      have hd3 := e3.out D _ hd hn
      have sv0 : SV X.K φ2 (wipe σ own) H3 (wipeE env own) st2 := (sv.mono (e1.trans (e2.trans e3)) s3).wipe own
      refine gT_go sv0 rv hs fun us hus sv1 => ⟨?_, ?_⟩
      · refine wipe_ext (by rw [setsS_length, wipe_length]) fun j hj => ?_
        have hin : ∀ a ∈ tgSlots g, a ∈ own := by
          intro a ha
          cases g with
          | name i0 =>
            have : own.contains i0 = true := h5
            have ha' : a = i0 := by simpa [tgSlots] using ha
            rw [ha']
            simpa using this
          | tup is =>
            have : is.all (fun i => own.contains i) = true := h5
            have := List.all_eq_true.mp this a ha
            simpa using this
        rw [setsS_out (fun h => hj (hin j h)), wipe_out hj]
      · -- the test
        have tests : ∃ t, (∀ (s : Shared) (H : Hp) (C : Addr) (cl : List (Str × Addr)) (fp : List Addr), PTs (X.blk s H scope (compEnvC scope cl C X.env) fp) ifs t) ∧ ∀ σ H Q, tT X.K env1 st2 b st3 σ H Q → t σ H Q := by
          cases ifs with
          | nil =>
            cases (Option.some.inj hi)
            exact ⟨tYes, fun _ _ _ _ _ => pts_nil, fun σ H Q ⟨φ, sv, q⟩ => q φ H (.refl _ _) sv.st⟩
          | cons t ts =>
            cases ts with
            | cons _ _ => exact absurd h4 (by simp)
            | nil =>
              obtain ⟨⟨b', st4⟩, hi1, hi2⟩ := Option.bind_eq_some_iff.mp (show (fT d (testE tj (compE k { c with sc := relS scope c.sc }) t) env1 st2).bind _ = some (b, st3) from hi)
              have eb : b' = b ∧ st4 = st3 := by
                cases b' with
                | true => cases (Option.some.inj hi2); exact ⟨rfl, rfl⟩
                | false => cases (Option.some.inj hi2); exact ⟨rfl, rfl⟩
              obtain ⟨rfl, rfl⟩ := eb
              exact ⟨_, fun s H C cl fp => pts_one (hT tj k _ d _ t env1 st2 b' st4 (o.blk scope s H C cl fp) hi1), fun σ H Q h => h⟩
        obtain ⟨t, t1, t2⟩ := tests
        refine ⟨t, t1, t2 _ _ _ ⟨φ2, sv1, fun φ4 H4 e4 s4 => ?_⟩⟩
        have hd4 := e4.out D _ hd3 hn
        have hn4 := e4.nin hd3 hn
        cases b with
        | false =>
          refine iteF ?_
          exact ⟨acc, st3, φ4, vacc, hl, e2.trans (e3.trans e4), s4, hd4, hr.mono (e3.trans e4), hn4⟩
        | true =>
          refine iteT ?_
          obtain ⟨⟨w, st5⟩, hw, hl⟩ := Option.bind_eq_some_iff.mp hl
          obtain ⟨hlen, hl⟩ : decide (acc.length < lim) = true ∧ loopC (fV d) (fT d) (compE k { c with sc := relS scope c.sc } elt) g (ifs.map (testE tj (compE k { c with sc := relS scope c.sc }))) own env src m (i + 1) (acc ++ [w]) st5 = some (xs, st') := by
            cases q : decide (acc.length < lim) with
            | true =>
              dsimp only at hl
              rw [q] at hl
              exact ⟨rfl, hl⟩
            | false =>
              dsimp only at hl
              rw [q] at hl
              cases hl
          obtain ⟨r, hr1, hr2⟩ := Option.map_eq_some_iff.mp hw
          refine ⟨tE X.K env1 st3 w st5, fun s H C cl fp => ?_, φ4, sv1.mono e4 s4, fun φ5 H5 u e5 s5 r5 => ?_⟩
          · have p1 := pe_alloc (r := r) (hV k { c with sc := relS scope c.sc } d (X.blk s H scope (compEnvC scope cl C X.env) fp) elt env1 st3 r.1 r.2 (o.blk scope s H C cl fp) hr1)
            rw [hr2] at p1
            exact p1
          · have hd5 := e5.out D _ hd4 hn4
            have hn5 := e5.nin hd4 hn4
            have hr5 := hr.mono (e3.trans (e4.trans e5))
            refine ⟨vacc, hd5, ?_, acc ++ [w], st5, φ5, vacc ++ [u], hl, (e2.trans (e3.trans (e4.trans e5))).mutNew hD hd5 trivial, s5.mut hd5 trivial hn5, upd_same, ?_, hn5⟩
            · rw [← hr5.length]
              exact lim_lt (of_decide_eq_true hlen)
            · exact (hr5.append (.cons r5 .nil)).keep (.upd hd5 trivial)
theorem v_comp (hV : OkV G fV) (hT : OkT G fT) (o : XOk G c d X) {elt tg it : Expr} {ifs : List Expr} {scope : Scope} {pos : Pos} {g : Tg} {src : Src} {xs : List PV} {st1 : Store} (h1 : tgOfC c.N scope tg = some g) (h2 : notSet it = true) (h3 : blkC c.N c.sc scope (ownOf c.N scope) = true)
    (h4 : ifs.length ≤ 1) (h5 : tgIn ((ownOf c.N scope).map (·.2)) g = true) (h6 : tgFits tg (ikOf c it) = true) (h7 : iterOf (fun e s => fV d e env s) (ikOf c it) ((itArgs (ikOf c it) it).map (compE k c)) st = some (src, st1))
    (h8 : loopC (fV d) (fT d) (compE k { c with sc := relS scope c.sc } elt) g (ifs.map (testE tj (compE k { c with sc := relS scope c.sc }))) ((ownOf c.N scope).map (·.2)) env src n 0 [] st1 = some (xs, st')) :
    PE X (.ListComp elt [⟨tg, it, ifs, 0⟩] scope pos) (tV X.K env st (.new xs) st') := by
  obtain ⟨wi, gg, tt, te, a1, a2, a3, a4, a5⟩ := comp_core hV hT o h1 h2 h3 h4 h5 h6 h7 h8
  exact PE.weak (pe_lc (own := ownOf c.N scope) o.calm (by rw [o.N]; exact o.nd) a1 (by rw [o.N, o.sc]; exact blkOk_by h3) a2 a3 a4 (fun x => by cases it <;> first | rfl | cases h2)) a5
end
end MI
end
section
set_option Elab.async false
set_option linter.all false
set_option maxRecDepth 100000
set_option maxHeartbeats 4000000
/-! MI10: all expressions, all tests. -/
namespace MI
open PySem PySem.Spec PyProof.Rows L2
section
variable {G : List Fn} {d n k : Nat} {c : Cc} {X : Cx} {env : Env} {st st' : Store}
theorem v_all (hV : OkV G (run G n).V) (hT : OkT G (run G n).T) (o : XOk G c d X) {e : Expr} {rv : RV} (h : stepV n (run G n) d (compE (k + 1) c e) env st = some (rv, st')) : PE X e (tV X.K env st rv st') := by
  cases e with
  | Name x p => exact v_name o h
  | Constant v kk p =>
    cases v with
    | int i => cases (Option.some.inj (show some (RV.val (litV (.int i)), st) = some (rv, st') from h)); exact v_lit pe_int fun _ _ _ => .int i
    | bool b => cases (Option.some.inj (show some (RV.val (litV (.bl b)), st) = some (rv, st') from h)); exact v_lit pe_bl fun _ _ _ => .bl b
    | str s => cases (Option.some.inj (show some (RV.val (litV (.str s)), st) = some (rv, st') from h)); exact v_lit pe_str fun _ _ _ => .str s
    | none => cases (Option.some.inj (show some (RV.val (litV .non), st) = some (rv, st') from h)); exact v_lit pe_non fun _ _ _ => .non
    | _ => cases h
  | BinOp a op b p =>
    obtain ⟨⟨x, st1⟩, h1, h2⟩ := Option.bind_eq_some_iff.mp (show ((run G n).V d (compE k c a) env st).bind _ = some (rv, st') from h)
    obtain ⟨⟨y, st2⟩, h3, h4⟩ := Option.bind_eq_some_iff.mp h2
    obtain ⟨r, h5, h6⟩ := Option.map_eq_some_iff.mp h4
    cases h6
    exact v_bin hV o h1 h3 h5
  | UnaryOp op a p =>
    cases op with
    | USub =>
      obtain ⟨⟨x, st1⟩, h1, h2⟩ := Option.bind_eq_some_iff.mp (show ((run G n).V d (compE k c a) env st).bind _ = some (rv, st') from h)
      dsimp only at h2
      split at h2
      · cases (Option.some.inj h2)
        exact v_neg hV o h1
      · cases h2
    | Not =>
      obtain ⟨⟨x, st1⟩, h1, h2⟩ := Option.bind_eq_some_iff.mp (show ((run G n).V d (compE k c a) env st).bind _ = some (rv, st') from h)
      dsimp only at h2
      split at h2
      · cases (Option.some.inj h2)
        exact v_not hV o h1
      · cases h2
    | _ => cases h
  | BoolOp op es p =>
    cases op with
    | And => exact v_and hV o (show andL (fun e s => (run G n).V d e env s) (es.map (compE k c)) st = some (rv, st') from h)
    | Or => exact v_or hV o (show orL (fun e s => (run G n).V d e env s) (es.map (compE k c)) st = some (rv, st') from h)
  | Compare a ops es p =>
    match ops, es, h with
    | [op], [b], h =>
      replace h : stepV n (run G n) d (bif notSet b then .cmp op (compE k c a) (compE k c b) else .never) env st = some (rv, st') := h
      cases hb : notSet b with
      | false => rw [hb] at h; cases h
      | true =>
        rw [hb] at h
        obtain ⟨⟨x, st1⟩, h1, h2⟩ := Option.bind_eq_some_iff.mp (show ((run G n).V d (compE k c a) env st).bind _ = some (rv, st') from h)
        obtain ⟨⟨y, st2⟩, h3, h4⟩ := Option.bind_eq_some_iff.mp h2
        obtain ⟨r, h5, h6⟩ := Option.map_eq_some_iff.mp h4
        cases h6
        exact v_cmp hV o hb h1 h3 h5
    | [o1, o2], [b, e], h =>
      replace h : stepV n (run G n) d (bif notSet b && notSet e then .chain o1 o2 (compE k c a) (compE k c b) (compE k c e) else .never) env st = some (rv, st') := h
      cases hb : (notSet b && notSet e) with
      | false => rw [hb] at h; cases h
      | true =>
        rw [hb] at h
        have hb2 := Bool.and_eq_true_iff.mp hb
        obtain ⟨⟨x, st1⟩, h1, h2⟩ := Option.bind_eq_some_iff.mp (show ((run G n).V d (compE k c a) env st).bind _ = some (rv, st') from h)
        obtain ⟨⟨y, st2⟩, h3, h4⟩ := Option.bind_eq_some_iff.mp h2
        obtain ⟨r1, h5, h6⟩ := Option.bind_eq_some_iff.mp h4
        cases r1 with
        | false =>
          cases (Option.some.inj h6)
          exact (v_chain hV o hb2.1 hb2.2 h1 h3 h5 (.inl ⟨rfl, rfl, rfl⟩)).1
        | true =>
          obtain ⟨⟨z, st3⟩, h7, h8⟩ := Option.bind_eq_some_iff.mp h6
          obtain ⟨r, h9, h10⟩ := Option.map_eq_some_iff.mp h8
          cases h10
          exact (v_chain hV o hb2.1 hb2.2 h1 h3 h5 (.inr ⟨rfl, z, h7, h9⟩)).1
    | [], _, h => cases h
    | [_], [], h => cases h
    | [_], _ :: _ :: _, h => cases h
    | [_, _], [], h => cases h
    | [_, _], [_], h => cases h
    | [_, _], _ :: _ :: _ :: _, h => cases h
    | _ :: _ :: _ :: _, _, h => cases h
  | IfExp t a b p =>
    obtain ⟨⟨x, st1⟩, h1, h2⟩ := Option.bind_eq_some_iff.mp (show ((run G n).T d (testE tj (compE k c) t) env st).bind _ = some (rv, st') from h)
    cases x with
    | true => exact v_ife hV hT o h1 (.inl ⟨rfl, h2⟩)
    | false => exact v_ife hV hT o h1 (.inr ⟨rfl, h2⟩)
  | Tuple es kk p =>
    replace h : stepV n (run G n) d (bif es.all notStar then .tup (es.map (compE k c)) else .never) env st = some (rv, st') := h
    cases hs : es.all notStar with
    | false => rw [hs] at h; cases h
    | true =>
      rw [hs] at h
      obtain ⟨⟨vs, st1⟩, h1, h2⟩ := Option.bind_eq_some_iff.mp (show (evL (evE fun e s => (run G n).V d e env s) (es.map (compE k c)) st).bind _ = some (rv, st') from h)
      obtain ⟨h3, h4⟩ := bif_some h2
      cases h4
      exact v_tup hV o hs h1 (of_decide_eq_true h3)
  | List es p =>
    replace h : stepV n (run G n) d (bif es.all notStar then .lst (es.map (compE k c)) else .never) env st = some (rv, st') := h
    cases hs : es.all notStar with
    | false => rw [hs] at h; cases h
    | true =>
      rw [hs] at h
      obtain ⟨⟨vs, st1⟩, h1, h2⟩ := Option.bind_eq_some_iff.mp (show (evL (evE fun e s => (run G n).V d e env s) (es.map (compE k c)) st).bind _ = some (rv, st') from h)
      obtain ⟨h3, h4⟩ := bif_some h2
      cases h4
      exact v_lst hV o hs h1 (of_decide_eq_true h3)
  | Dict ks vs p =>
    replace h : stepV n (run G n) d (match allSome (ks.map strKey) with
      | some ss => bif decide (ks.length = vs.length) && (decide (0 < ks.length) && decide (ks.length ≤ 15)) then .dct ss (vs.map (compE k c)) else .never
      | none => .never) env st = some (rv, st') := h
    cases hk : allSome (ks.map strKey) with
    | none => rw [hk] at h; cases h
    | some ss =>
      rw [hk] at h
      dsimp only at h
      cases hc : (decide (ks.length = vs.length) && (decide (0 < ks.length) && decide (ks.length ≤ 15))) with
      | false => rw [hc] at h; cases h
      | true =>
        rw [hc] at h
        have c1 := Bool.and_eq_true_iff.mp hc
        have c2 := Bool.and_eq_true_iff.mp c1.2
        obtain ⟨⟨us, st1⟩, h1, h2⟩ := Option.map_eq_some_iff.mp (show (evL (evE fun e s => (run G n).V d e env s) (vs.map (compE k c)) st).map _ = some (rv, st') from h)
        cases h2
        exact v_dct hV o hk (of_decide_eq_true c1.1) (of_decide_eq_true c2.1) (of_decide_eq_true c2.2) h1
  | Subscript a b p =>
    have idx : notSlice b = true → stepV n (run G n) d (bif notSlice b && notTuple b then .idx (compE k c a) (compE k c b) else .never) env st = some (rv, st') → PE X (.Subscript a b p) (tV X.K env st rv st') := by
      intro hb h
      cases ht : (notSlice b && notTuple b) with
      | false => rw [ht] at h; cases h
      | true =>
        rw [ht] at h
        obtain ⟨⟨x, st1⟩, h1, h2⟩ := Option.bind_eq_some_iff.mp (show ((run G n).V d (compE k c a) env st).bind _ = some (rv, st') from h)
        obtain ⟨⟨y, st2⟩, h3, h4⟩ := Option.bind_eq_some_iff.mp h2
        obtain ⟨r, h5, h6⟩ := Option.map_eq_some_iff.mp h4
        cases h6
        exact v_idx hV o hb h1 h3 h5
    have sl : ∀ lo hi p2, b = .Slice lo hi none p2 → stepV n (run G n) d (.slice (compE k c a) (lo.map (compE k c)) (hi.map (compE k c))) env st = some (rv, st') → PE X (.Subscript a b p) (tV X.K env st rv st') := by
      intro lo hi p2 eb h'
      rw [eb]
      obtain ⟨⟨x, st1⟩, h1, h2⟩ := Option.bind_eq_some_iff.mp (show ((run G n).V d (compE k c a) env st).bind _ = some (rv, st') from h')
      obtain ⟨⟨l, st2⟩, h3, h4⟩ := Option.bind_eq_some_iff.mp h2
      obtain ⟨⟨u, st3⟩, h5, h6⟩ := Option.bind_eq_some_iff.mp h4
      obtain ⟨r, h7, h8⟩ := Option.map_eq_some_iff.mp h6
      cases h8
      exact v_slice hV o h1 h3 h5 h7
    have rv' : ∀ kk p1 p2 p3, b = .Slice none none (some (.UnaryOp .USub (.Constant (.int 1) kk p1) p2)) p3 → stepV n (run G n) d (.rev (compE k c a)) env st = some (rv, st') → PE X (.Subscript a b p) (tV X.K env st rv st') := by
      intro kk p1 p2 p3 eb h'
      rw [eb]
      obtain ⟨⟨x, st1⟩, h1, h2⟩ := Option.bind_eq_some_iff.mp (show ((run G n).V d (compE k c a) env st).bind _ = some (rv, st') from h')
      obtain ⟨⟨l, xs⟩, h3, h4⟩ := Option.bind_eq_some_iff.mp h2
      obtain ⟨h5, h6⟩ := bif_some h4
      have h5' : l = true := h5
      subst h5'
      cases h6
      exact v_rev hV o h1 h3
    replace h : stepV n (run G n) d (subE (compE k c a) (compE k c) b) env st = some (rv, st') := h
    unfold subE at h
    split at h
    · exact rv' _ _ _ _ rfl h
    · exact sl _ _ _ rfl h
    · rename_i h1 h2
      refine idx ?_ h
      cases hb : notSlice b with
      | true => rfl
      | false =>
        rw [hb] at h
        cases h
  | Call f args kws p =>
    cases f with
    | Name f fp =>
      replace h : stepV n (run G n) d (callE c (compE k c) f args kws) env st = some (rv, st') := h
      unfold callE at h
      cases hg : (gloB c.sc f && args.all notStar) with
      | false => rw [hg] at h; cases h
      | true =>
        rw [hg] at h
        have hg2 := Bool.and_eq_true_iff.mp hg
        cases hj : c.F.findIdx? (fun p => decide (p.1 = f)) with
        | some j =>
          rw [hj] at h
          obtain ⟨j1, j2, _⟩ := List.findIdx?_eq_some_iff_getElem.mp hj
          have hf : c.F[j]? = some (f, c.F[j].2) := by
            rw [List.getElem?_eq_getElem j1]
            have := of_decide_eq_true j2
            rw [← this]
          cases kws with
          | nil =>
            dsimp only [cond_true] at h
            cases h0 : decide (0 < args.length) with
            | false => rw [h0] at h; cases h
            | true =>
              rw [h0] at h
              obtain ⟨⟨vs, st1⟩, h1, h2⟩ := Option.bind_eq_some_iff.mp (show (evL (evE fun e s => (run G n).V d e env s) (args.map (compE k c)) st).bind _ = some (rv, st') from h)
              obtain ⟨⟨v, st2⟩, h3, h4⟩ := Option.map_eq_some_iff.mp h2
              cases h4
              exact v_call hV o hg2.1 hf hg2.2 (of_decide_eq_true h0) h1 h3
          | cons kw kws =>
            dsimp only [cond_true] at h
            rw [hf] at h
            cases hk : kwNames (kw :: kws) with
            | none => rw [hk] at h; cases h
            | some ks =>
              rw [hk] at h
              dsimp only at h
              cases hp : permOf c.F[j].2 args.length ks with
              | none => rw [hp] at h; cases h
              | some pm =>
                rw [hp] at h
                dsimp only at h
                cases hc : (decide (args.length + ks.length = c.F[j].2.length) && c.KF.any fun e => decide (e = (j, ks, pm))) with
                | false => rw [hc] at h; cases h
                | true =>
                  rw [hc] at h
                  have hc2 := Bool.and_eq_true_iff.mp hc
                  obtain ⟨e, he1, he2⟩ := List.any_eq_true.mp hc2.2
                  have hm : (j, ks, pm) ∈ c.KF := by rw [← of_decide_eq_true he2]; exact he1
                  obtain ⟨⟨vs, st1⟩, h1, h2⟩ := Option.bind_eq_some_iff.mp (show (evL (evE fun e s => (run G n).V d e env s) (args.map (compE k c)) st).bind _ = some (rv, st') from h)
                  obtain ⟨⟨ws, st2⟩, h3, h4⟩ := Option.bind_eq_some_iff.mp h2
                  obtain ⟨us, h5, h6⟩ := Option.bind_eq_some_iff.mp h4
                  obtain ⟨⟨v, st3⟩, h7, h8⟩ := Option.map_eq_some_iff.mp h6
                  cases h8
                  exact v_callK hV o hg2.1 hf hg2.2 hk (of_decide_eq_true hc2.1) hm h1 h3 h5 h7
        | none =>
          rw [hj] at h
          cases kws with
          | cons _ _ => cases h
          | nil =>
            dsimp only [cond_true] at h
            cases hb : c.bis.lookup f with
            | none => rw [hb] at h; cases h
            | some b =>
              rw [hb] at h
              dsimp only at h
              cases h0 : decide (0 < args.length) with
              | false => rw [h0] at h; cases h
              | true =>
                rw [h0] at h
                obtain ⟨⟨xs, st1⟩, h1, h2⟩ := Option.bind_eq_some_iff.mp (show (evL (fun e s => (run G n).V d e env s) (args.map (compE k c)) st).bind _ = some (rv, st') from h)
                obtain ⟨r, h3, h4⟩ := Option.map_eq_some_iff.mp h2
                cases h4
                exact v_bi hV o hg2.1 hb hg2.2 (of_decide_eq_true h0) h1 h3
    | Attribute e m apos =>
      replace h : stepV n (run G n) d (methE (compE k c) e m apos args kws p) env st = some (rv, st') := h
      unfold methE at h
      cases hg : ((plainBase e && (args.all notStar && decide (apos.endLine = p.line))) && kws.isEmpty) with
      | false => rw [hg] at h; cases h
      | true =>
        rw [hg] at h
        have hg1 := Bool.and_eq_true_iff.mp hg
        have hg2 := Bool.and_eq_true_iff.mp hg1.1
        have hg3 := Bool.and_eq_true_iff.mp hg2.2
        have hk : kws = [] := List.isEmpty_iff.mp hg1.2
        subst hk
        by_cases hm : m = ("append" : Str)
        · rw [if_pos hm] at h
          subst hm
          match args, hg3, h with
          | [a], hg3, h =>
            have hs : notStar a = true := by simpa using hg3.1
            obtain ⟨⟨x, st1⟩, h1, h2⟩ := Option.bind_eq_some_iff.mp (show ((run G n).V d (compE k c e) env st).bind _ = some (rv, st') from h)
            obtain ⟨⟨v, st2⟩, h3, h4⟩ := Option.bind_eq_some_iff.mp h2
            dsimp only at h4
            split at h4
            · rename_i m
              split at h4
              · rename_i ys xs e1 e2
                obtain ⟨h5, h6⟩ := bif_some h4
                cases h6
                exact v_append hV o hg2.1 hs (of_decide_eq_true hg3.2) h1 h3 e2 (of_decide_eq_true h5) ⟨ys, e1⟩
              · cases h4
            · cases h4
          | [], hg3, h => cases h
          | _ :: _ :: _, hg3, h => cases h
        · rw [if_neg hm] at h
          by_cases hm2 : m = ("pop" : Str)
          · rw [if_pos hm2] at h
            subst hm2
            match args, hg3, h with
            | [], hg3, h =>
              obtain ⟨⟨x, st1⟩, h1, h2⟩ := Option.bind_eq_some_iff.mp (show ((run G n).V d (compE k c e) env st).bind _ = some (rv, st') from h)
              dsimp only at h2
              split at h2
              · rename_i m
                split at h2
                · rename_i xs e1
                  obtain ⟨v, h5, h6⟩ := Option.map_eq_some_iff.mp h2
                  cases h6
                  exact v_pop hV o hg2.1 (of_decide_eq_true hg3.2) h1 e1 h5
                · cases h2
              · cases h2
            | _ :: _, hg3, h => cases h
          · rw [if_neg hm2] at h
            cases h
    | _ => cases h
  | ListComp elt gs scope p =>
    replace h : stepV n (run G n) d (lcE c (compE k) elt gs scope) env st = some (rv, st') := h
    unfold lcE at h
    split at h
    · rename_i tg it ifs
      cases ht : tgOfC c.N scope tg with
      | none => rw [ht] at h; cases h
      | some g =>
        rw [ht] at h
        dsimp only at h
        cases hc : (notSet it && (blkC c.N c.sc scope (ownOf c.N scope) && (decide (ifs.length ≤ 1) && (tgIn ((ownOf c.N scope).map (·.2)) g && tgFits tg (ikOf c it))))) with
        | false => rw [hc] at h; cases h
        | true =>
          rw [hc] at h
          have c1 := Bool.and_eq_true_iff.mp hc
          have c2 := Bool.and_eq_true_iff.mp c1.2
          have c3 := Bool.and_eq_true_iff.mp c2.2
          have c4 := Bool.and_eq_true_iff.mp c3.2
          obtain ⟨⟨src, st1⟩, h1, h2⟩ := Option.bind_eq_some_iff.mp (show (iterOf (fun e s => (run G n).V d e env s) (ikOf c it) ((itArgs (ikOf c it) it).map (compE k c)) st).bind _ = some (rv, st') from h)
          obtain ⟨⟨xs, st2⟩, h3, h4⟩ := Option.map_eq_some_iff.mp h2
          cases h4
          exact v_comp hV hT o ht c1.1 c2.1 (of_decide_eq_true c3.1) c4.1 c4.2 h1 h3
    · cases h
  | _ => cases h
/-- tests that are a value's truth -/
theorem t_val (hV : OkV G (run G n).V) (o : XOk G c d X) {e : Expr} {b : Bool} {x : RV} (he : ∀ whole, isTrue e X.env whole = (do let v ← whole; standAt e.pos; holding [v] (truthy v))) (h1 : (run G n).V d (compE k c e) env st = some (x, st')) (h2 : truth st' x = some b) : PT X e (tT X.K env st b st') :=
  PT.weak (pt_truth (hV k c d X e env st x st' o h1) he) fun σ H Q ⟨φ, sv, q⟩ => ⟨φ, sv, fun φ1 H1 u e1 s1 r1 f1 => ⟨b, truth_ok h2 r1 s1, q φ1 H1 e1 s1⟩⟩
end
end MI
end
section
set_option Elab.async false
set_option linter.all false
set_option maxRecDepth 100000
set_option maxHeartbeats 4000000
/-! MI11: tests. -/
namespace MI
open PySem PySem.Spec PyProof.Rows L2
section
variable {G : List Fn} {d n j k : Nat} {c : Cc} {X : Cx} {env : Env} {st st' : Store}
theorem t_all (hV : ∀ m, m ≤ n → OkV G (run G m).V) (hT : OkT G (run G n).T) (o : XOk G c d X) {e : Expr} {b : Bool} (h : stepT n (run G n) d (testE (j + 1) (compE k c) e) env st = some (b, st')) : PT X e (tT X.K env st b st') := by
  have dflt : (∀ whole, isTrue e X.env whole = (do let v ← whole; standAt e.pos; holding [v] (truthy v))) → ((run G n).V d (compE k c e) env st).bind (fun (x, st1) => (truth st1 x).map fun b => (b, st1)) = some (b, st') → PT X e (tT X.K env st b st') := by
    intro he h
    obtain ⟨⟨x, st1⟩, h1, h2⟩ := Option.bind_eq_some_iff.mp h
    obtain ⟨r, h3, h4⟩ := Option.map_eq_some_iff.mp h2
    cases h4
    exact t_val (hV n (Nat.le_refl _)) o he h1 h3
  cases e with
  | UnaryOp op a p =>
    cases op with
    | Not =>
      obtain ⟨⟨x, st1⟩, h1, h2⟩ := Option.map_eq_some_iff.mp (show ((run G n).T d (testE j (compE k c) a) env st).map _ = some (b, st') from h)
      cases h2
      exact t_not hT o h1
    | USub => exact dflt (fun _ => rfl) h
    | _ => exact dflt (fun _ => rfl) h
  | BoolOp op es p =>
    cases op with
    | And => exact (t_and hT o (show andT (fun e s => (run G n).T d e env s) (es.map (testE j (compE k c))) st = some (b, st') from h)).pt
    | Or => exact (t_or hT o (show orT (fun e s => (run G n).T d e env s) (es.map (testE j (compE k c))) st = some (b, st') from h)).pt
  | IfExp t a b p => cases h
  | Compare a ops es p =>
    obtain ⟨⟨x, st1⟩, h1, h2⟩ := Option.bind_eq_some_iff.mp (show ((run G n).V d (compE k c (.Compare a ops es p)) env st).bind _ = some (b, st') from h)
    obtain ⟨r, h3, h4⟩ := Option.map_eq_some_iff.mp h2
    cases h4
    cases n with
    | zero => cases h1
    | succ m =>
      cases k with
      | zero => cases h1
      | succ k =>
        have hm := hV m (Nat.le_succ m)
        match ops, es, h1 with
        | [op], [b'], h1 =>
          replace h1 : stepV m (run G m) d (bif notSet b' then .cmp op (compE k c a) (compE k c b') else .never) env st = some (x, st') := h1
          cases hb : notSet b' with
          | false => rw [hb] at h1; cases h1
          | true =>
            rw [hb] at h1
            obtain ⟨⟨x, st1⟩, h5, h6⟩ := Option.bind_eq_some_iff.mp (show ((run G m).V d (compE k c a) env st).bind _ = some (x, st') from h1)
            obtain ⟨⟨y, st2⟩, h7, h8⟩ := Option.bind_eq_some_iff.mp h6
            obtain ⟨r', h9, h10⟩ := Option.map_eq_some_iff.mp h8
            cases h10
            cases (Option.some.inj h3)
            exact t_cmp hm o hb h5 h7 h9
        | [o1, o2], [b', e], h1 =>
          replace h1 : stepV m (run G m) d (bif notSet b' && notSet e then .chain o1 o2 (compE k c a) (compE k c b') (compE k c e) else .never) env st = some (x, st') := h1
          cases hb : (notSet b' && notSet e) with
          | false => rw [hb] at h1; cases h1
          | true =>
            rw [hb] at h1
            have hb2 := Bool.and_eq_true_iff.mp hb
            obtain ⟨⟨x, st1⟩, h5, h6⟩ := Option.bind_eq_some_iff.mp (show ((run G m).V d (compE k c a) env st).bind _ = some (x, st') from h1)
            obtain ⟨⟨y, st2⟩, h7, h8⟩ := Option.bind_eq_some_iff.mp h6
            obtain ⟨r1, h9, h10⟩ := Option.bind_eq_some_iff.mp h8
            cases r1 with
            | false =>
              cases (Option.some.inj h10)
              cases (Option.some.inj h3)
              exact (v_chain hm o hb2.1 hb2.2 h5 h7 h9 (.inl ⟨rfl, rfl, rfl⟩)).2
            | true =>
              obtain ⟨⟨z, st3⟩, h11, h12⟩ := Option.bind_eq_some_iff.mp h10
              obtain ⟨r', h13, h14⟩ := Option.map_eq_some_iff.mp h12
              cases h14
              cases (Option.some.inj h3)
              exact (v_chain hm o hb2.1 hb2.2 h5 h7 h9 (.inr ⟨rfl, z, h11, h13⟩)).2
        | [], _, h => cases h
        | [_], [], h => cases h
        | [_], _ :: _ :: _, h => cases h
        | [_, _], [], h => cases h
        | [_, _], [_], h => cases h
        | [_, _], _ :: _ :: _ :: _, h => cases h
        | _ :: _ :: _ :: _, _, h => cases h
  | _ => exact dflt (fun _ => rfl) h
/-- all expressions and tests, at every fuel -/
theorem ok_exprs (G : List Fn) : ∀ n, (∀ m, m ≤ n → OkV G (run G m).V) ∧ OkT G (run G n).T
  | 0 => by
    refine ⟨fun m hm => ?_, fun j k c d X e env st b st' o h => nomatch h⟩
    have : m = 0 := Nat.le_zero.mp hm
    subst this
    intro k c d X e env st rv st' o h
    cases h
  | n + 1 => by
    obtain ⟨hV, hT⟩ := ok_exprs G n
    have v1 : OkV G (run G (n + 1)).V := fun k c d X e env st rv st' o h => by
      cases k with
      | zero => cases h
      | succ k => exact v_all (hV n (Nat.le_refl _)) hT o h
    refine ⟨fun m hm => ?_, fun j k c d X e env st b st' o h => ?_⟩
    · rcases Nat.lt_or_ge m (n + 1) with h | h
      · exact hV m (Nat.le_of_lt_succ h)
      · have : m = n + 1 := Nat.le_antisymm hm h
        subst this
        exact v1
    · cases j with
      | zero => cases h
      | succ j => exact t_all hV hT o h
theorem okV (G : List Fn) (n : Nat) : OkV G (run G n).V := (ok_exprs G n).1 n (Nat.le_refl _)
theorem okT (G : List Fn) (n : Nat) : OkT G (run G n).T := (ok_exprs G n).2
end
end MI
end
section
set_option Elab.async false
set_option linter.all false
set_option maxRecDepth 100000
set_option maxHeartbeats 4000000
/-! MI12: statements. -/
namespace MI
open PySem PySem.Spec PyProof.Rows L2
/-- what a def's body is, beside an expression's context -/
structure XSt (G : List Fn) (c : Cc) (d : Nat) (X : Cx) : Prop where
  x : XOk G c d X
  fn : ∀ y, X.fn y = true
  kind : X.env.blockKind = .function
  pass : PassesOwn (model X.prog X.w) X.A X.env X.xe
def PostS (K : PySem.W.Frag) (φ : List Addr) (H : Hp) (out : Out) (st' : Store) (D : Ends) : Prop := match out with
  | .next env' => ∀ φ' σ' H', Evo φ φ' H H' → SV K φ' σ' H' env' st' → D.nx σ' H'
  | .ret v => ∀ φ' H' u, Evo φ φ' H H' → StR K φ' H' st' → RelP K φ' H' v u → D.rt u H'
  | .brk env' => ∀ φ' σ' H', Evo φ φ' H H' → SV K φ' σ' H' env' st' → D.bk σ' H'
  | .cont env' => ∀ φ' σ' H', Evo φ φ' H H' → SV K φ' σ' H' env' st' → D.ct σ' H'
def tS (K : PySem.W.Frag) (env : Env) (st : Store) (out : Out) (st' : Store) : TS := fun D σ H => ∃ φ, SV K φ σ H env st ∧ PostS K φ H out st' D
theorem PostS.step {K : PySem.W.Frag} {φ φ' : List Addr} {H H' : Hp} {out : Out} {st' : Store} {D : Ends} (h : PostS K φ H out st' D) (e : Evo φ φ' H H') : PostS K φ' H' out st' D := by
  cases out with
  | next env' => exact fun φ2 σ2 H2 e2 s => h φ2 σ2 H2 (e.trans e2) s
  | brk env' => exact fun φ2 σ2 H2 e2 s => h φ2 σ2 H2 (e.trans e2) s
  | cont env' => exact fun φ2 σ2 H2 e2 s => h φ2 σ2 H2 (e.trans e2) s
  | ret v => exact fun φ2 H2 u e2 s r => h φ2 H2 u (e.trans e2) s r
theorem PS.weak {X : Cx} {s : Stmt} {t t' : TS} (h : PS X s t) (w : ∀ D σ H, t' D σ H → t D σ H) : PS X s t' := ⟨fun pins sh σ H D I q => h.run pins sh σ H D I (w D σ H q)⟩
theorem PSs.weak {X : Cx} {s : List Stmt} {t t' : TS} (h : PSs X s t) (w : ∀ D σ H, t' D σ H → t D σ H) : PSs X s t' := ⟨fun pins sh σ H D I q => h.run pins sh σ H D I (w D σ H q)⟩
theorem ps_no {X : Cx} {s : Stmt} : PS X s (fun _ _ _ => False) := ⟨fun _ _ _ _ _ _ h => h.elim⟩
theorem pss_no {X : Cx} {s : List Stmt} : PSs X s (fun _ _ _ => False) := ⟨fun _ _ _ _ _ _ h => h.elim⟩
def OkS (G : List Fn) (S : Nat → IS → Env → Store → Option (Out × Store)) : Prop :=
  ∀ k c d X s env st out st', XSt G c d X → S d (compS k c s) env st = some (out, st') → PS X s (tS X.K env st out st')
section
variable {G : List Fn} {fS : Nat → IS → Env → Store → Option (Out × Store)} {d n k : Nat} {c : Cc} {X : Cx} {env : Env} {st st' : Store}
theorem runSs_ok (hS : OkS G fS) (o : XSt G c d X) : ∀ {ss : List Stmt} {env : Env} {st : Store} {out : Out}, runSs (fS d) (ss.map (compS k c)) env st = some (out, st') → PSs X ss (tS X.K env st out st')
  | [], env, st, out, h => by
    cases (Option.some.inj h)
    exact PSs.weak pss_nil fun D σ H ⟨φ, sv, q⟩ => q φ σ H (.refl _ _) sv
  | s :: ss, env, st, out, h => by
    obtain ⟨⟨o1, st1⟩, h1, h2⟩ := Option.bind_eq_some_iff.mp (show (fS d (compS k c s) env st).bind _ = some (out, st') from h)
    have p1 := hS k c d X s env st o1 st1 o h1
    cases o1 with
    | next env1 => exact PSs.weak (pss_cons p1 (runSs_ok hS o h2)) fun D σ H ⟨φ, sv, q⟩ => ⟨φ, sv, fun φ1 σ1 H1 e1 s1 => ⟨φ1, s1, q.step e1⟩⟩
    | ret v =>
      cases (Option.some.inj h2)
      exact PSs.weak (pss_cons p1 pss_no) fun D σ H ⟨φ, sv, q⟩ => ⟨φ, sv, q⟩
    | brk env1 =>
      cases (Option.some.inj h2)
      exact PSs.weak (pss_cons p1 pss_no) fun D σ H ⟨φ, sv, q⟩ => ⟨φ, sv, q⟩
    | cont env1 =>
      cases (Option.some.inj h2)
      exact PSs.weak (pss_cons p1 pss_no) fun D σ H ⟨φ, sv, q⟩ => ⟨φ, sv, q⟩
/-- a value that is no comprehension: nothing is swapped -/
theorem swaps_no {e : Expr} {t : Option Expr} {l : Nat} {en : PySem.Env} (h : notComp e = true) : swapsWith e t l en = pure false := by
  cases e <;> first | rfl | cases h
theorem s_asg (hV : OkV G (run G n).V) (o : XSt G c d X) {x : Str} {p pos : Pos} {e : Expr} {i : Nat} {r : RV × Store} (hl : locB c.sc x = true) (hs : slotOf c.N x = some i) (hc : notComp e = true) (h : (run G n).V d (compE k c e) env st = some r) :
    PS X (.Assign [.Name x p] e pos) (tS X.K env st (.next (env.set i (some (allocR r).1))) (allocR r).2) := by
  have p1 := pe_alloc (r := r) (hV k c d X e env st r.1 r.2 o.x h)
  refine PS.weak (ps_set (i := i) (by rw [o.x.N]; exact o.x.nd) (by rw [o.x.N]; exact slot_get hs) (by rw [o.x.sc]; exact loc_of hl) p1 (swaps_no hc) (.inl (o.fn x))) fun D σ H ⟨φ, sv, q⟩ => ⟨φ, sv, fun φ1 H1 u e1 s1 r1 => ?_⟩
  exact q φ1 _ H1 e1 ((sv.mono e1 s1).set r1 i)
end
theorem sw_ok {c : Cc} {ts es : List Expr} {r : Option (List Str)} {en : PySem.Env} {kk k2 : Nat} {p p2 : Pos} (hsc : en.scope = c.sc) (hk : en.blockKind = .function) (hs : es.all notStar = true) (h : swC c ts es = some r) :
    swappedStores [.Tuple ts kk p] (.Tuple es k2 p2) en = pure r := by
  unfold swappedStores
  dsimp only
  have hany : (es.any fun x => match x with
      | .Starred value pos => true
      | x => false) = false := by
    rw [List.any_eq_false]
    intro e he
    have h2 := List.all_eq_true.mp hs e he
    cases e with
    | Starred a b => cases h2
    | _ => simp
  have e1 : (ts.filterMap fun x => match x with
    | .Name id pos => if (en.kindOf id == some .local && pos.line == (ts.head?.map (·.pos.line)).getD 0) = true then some id else none
    | x => none) = swN c ts := by
    unfold swN
    congr 1
    funext t
    cases t with
    | Name x q =>
      have : en.kindOf x = c.sc.names.lookup x := by
        show en.scope.names.lookup x = _
        rw [hsc]
      dsimp only
      rw [this]
    | _ => rfl
  unfold swC at h
  have no : ∀ {a : Bool} {b : Bool}, a = false → b = a → ¬ b = true := fun h1 h2 h3 => by rw [h2, h1] at h3; cases h3
  cases c1 : (!(ts.length == 2 || ts.length == 3) || es.length != ts.length) with
  | true =>
    rw [c1] at h
    cases (Option.some.inj h)
    exact if_pos (by rfl)
  | false =>
    rw [c1] at h
    refine (if_neg (by rw [hk]; decide)).trans ?_
    refine (if_neg (no hany rfl)).trans ?_
    cases c2 : ((swN c ts).length != ts.length || (swN c ts).eraseDups.length != (swN c ts).length) with
    | true =>
      rw [c2] at h
      cases (Option.some.inj h)
      refine if_pos ?_
      rw [← e1] at c2
      exact c2
    | false =>
      rw [c2] at h
      refine (if_neg (no c2 (by rw [← e1]; rfl))).trans ?_
      cases c3 : es.all (foldedForSure 8) with
      | true =>
        rw [c3] at h
        cases (Option.some.inj h)
        exact if_pos rfl
      | false =>
        rw [c3] at h
        refine (if_neg (by decide)).trans ?_
        cases c4 : es.all (constantsAlone 8) with
        | true => rw [c4] at h; cases h
        | false =>
          rw [c4] at h
          cases (Option.some.inj h)
          refine (if_neg (by decide)).trans ?_
          rw [← e1]
          rfl

section
variable {G : List Fn} {fS : Nat → IS → Env → Store → Option (Out × Store)} {d n k : Nat} {c : Cc} {X : Cx} {env : Env} {st st' : Store}
/-- a comprehension, as what it reads -/
theorem lc_reads (hV : OkV G (run G n).V) (hT : OkT G (run G n).T) (o : XOk G c d X) {elt : Expr} {gs : List Comprehension} {scope : Scope} {rv : RV} (h : stepV n (run G n) d (lcE c (compE k) elt gs scope) env st = some (rv, st')) :
    ∃ tg it ifs, gs = [⟨tg, it, ifs, 0⟩] ∧ notSet it = true ∧ blkC c.N c.sc scope (ownOf c.N scope) = true ∧ ∃ wi gg tt te, PI X tg it wi ∧ (∀ (s : Shared) (H : Hp) (C : Addr) (cl : List (Str × Addr)) (fp : List Addr), PG (X.blk s H scope (compEnvC scope cl C X.env) fp) tg gg) ∧
      (∀ (s : Shared) (H : Hp) (C : Addr) (cl : List (Str × Addr)) (fp : List Addr), PTs (X.blk s H scope (compEnvC scope cl C X.env) fp) ifs tt) ∧
      (∀ (s : Shared) (H : Hp) (C : Addr) (cl : List (Str × Addr)) (fp : List Addr), PE (X.blk s H scope (compEnvC scope cl C X.env) fp) elt te) ∧ ∀ σ H Q, tV X.K env st rv st' σ H Q → tLc wi gg tt te ((ownOf c.N scope).map (·.2)) σ H Q := by
  unfold lcE at h
  split at h
  · rename_i tg it ifs
    cases ht : tgOfC c.N scope tg with
    | none => rw [ht] at h; cases h
    | some g =>
      rw [ht] at h
      dsimp only at h
      cases hc : (notSet it && (blkC c.N c.sc scope (ownOf c.N scope) && (decide (ifs.length ≤ 1) && (tgIn ((ownOf c.N scope).map (·.2)) g && tgFits tg (ikOf c it))))) with
      | false => rw [hc] at h; cases h
      | true =>
        rw [hc] at h
        have c1 := Bool.and_eq_true_iff.mp hc
        have c2 := Bool.and_eq_true_iff.mp c1.2
        have c3 := Bool.and_eq_true_iff.mp c2.2
        have c4 := Bool.and_eq_true_iff.mp c3.2
        obtain ⟨⟨src, st1⟩, h1, h2⟩ := Option.bind_eq_some_iff.mp (show (iterOf (fun e s => (run G n).V d e env s) (ikOf c it) ((itArgs (ikOf c it) it).map (compE k c)) st).bind _ = some (rv, st') from h)
        obtain ⟨⟨xs, st2⟩, h3, h4⟩ := Option.map_eq_some_iff.mp h2
        cases h4
        exact ⟨tg, it, ifs, rfl, c1.1, c2.1, comp_core hV hT o ht c1.1 c2.1 (of_decide_eq_true c3.1) c4.1 c4.2 h1 h3⟩
  · cases h
/-- name = [.. for ..] -/
theorem s_asgC (o : XSt G c d X) {x : Str} {p pos cpos : Pos} {elt : Expr} {gs : List Comprehension} {scope : Scope} {i : Nat} {r : RV × Store} (hl : locB c.sc x = true) (hs : slotOf c.N x = some i) (h : (run G n).V d (compE k c (.ListComp elt gs scope cpos)) env st = some r) :
    PS X (.Assign [.Name x p] (.ListComp elt gs scope cpos) pos) (tS X.K env st (.next (env.set i (some (allocR r).1))) (allocR r).2) := by
  cases n with
  | zero => cases h
  | succ m =>
    cases k with
    | zero => cases h
    | succ k =>
      obtain ⟨tg, it, ifs, rfl, h2, h3, wi, gg, tt, te, a1, a2, a3, a4, a5⟩ := lc_reads (rv := r.1) (st' := r.2) (okV G m) (okT G m) o.x h
      have hN : X.N.Nodup := by rw [o.x.N]; exact o.x.nd
      have hi : X.N[i]? = some x := by rw [o.x.N]; exact slot_get hs
      have hx : L2.Loc X.env.scope x := by rw [o.x.sc]; exact loc_of hl
      have fin : ∀ D σ H, tS X.K env st (.next (env.set i (some (allocR r).1))) (allocR r).2 D σ H → tAsg (tLc wi gg tt te ((ownOf c.N scope).map (·.2))) (gName i) D σ H := fun D σ H ⟨φ, sv, q⟩ =>
        a5 σ H _ ⟨φ, sv, PostE.alloc fun φ1 H1 u e1 s1 r1 => q φ1 _ H1 e1 ((sv.mono e1 s1).set r1 i)⟩
      have ok := blkOk_by h3
      have hset : ∀ x, foldedSetIterable it X.env x = pure x := fun x => by cases it <;> first | rfl | cases h2
      have eq : swapsWith (.ListComp elt [⟨tg, it, ifs, 0⟩] scope cpos) (some (.Name x p)) pos.line X.env = pure (X.env.blockKind == .function && X.env.kindOf x == some .local && p.line == cpos.line
        && !(scope.names.any fun (n, k) => n == x && (k == .local || k == .cell))) := rfl
      cases sw : (X.env.blockKind == .function && X.env.kindOf x == some .local && p.line == cpos.line && !(scope.names.any fun (n, k) => n == x && (k == .local || k == .cell))) with
      | true =>
        rw [sw] at eq
        have hloc : X.env.scope.names.lookup x = some .local := by
          have z := Bool.and_eq_true_iff.mp sw
          have z1 := Bool.and_eq_true_iff.mp z.1
          have z2 := Bool.and_eq_true_iff.mp z1.1
          have z3 : (X.env.scope.names.lookup x == some .local) = true := z2.2
          cases q : X.env.scope.names.lookup x with
          | none => rw [q] at z3; cases z3
          | some kd =>
            rw [q] at z3
            cases kd <;> first | rfl | (revert z3; decide)
        exact PS.weak (ps_setLc o.x.calm hN hi hloc eq a1 (by rw [o.x.N, o.x.sc]; exact ok) a2 a3 a4 hset) fin
      | false =>
        rw [sw] at eq
        exact PS.weak (ps_set (i := i) hN hi hx (pe_lc (own := ownOf c.N scope) o.x.calm hN a1 (by rw [o.x.N, o.x.sc]; exact ok) a2 a3 a4 hset) eq (.inl (o.fn x))) fin
theorem tgt_row (o : XSt G c d X) {ts : List Expr} {is : List Nat} (h : namesOf c ts = some is) : PGs X ts (gNames is) ∧ (assignEach ts X.env).length = is.length ∧ (assignEach ts X.env).findIdx? (·.1) = none :=
  pgs_of (P := locB c.sc) o.x.N o.x.nd (fun x hx => ⟨by rw [o.x.sc]; exact loc_of hx, .inl (o.fn x)⟩) h
/-- a, b, .. = e -/
theorem s_asgT (hV : OkV G (run G n).V) (o : XSt G c d X) {ts : List Expr} {kk : Nat} {tp pos : Pos} {e : Expr} {is : List Nat} {vs : List PV} {env1 : Env} (hn : namesOf c ts = some is) (hc : notComp e = true) (ht : notTuple e = true)
    (h : (run G n).V d (compE k c e) env st = some (.val (.tup vs), st')) (hs : setT env is vs = some env1) : PS X (.Assign [.Tuple ts kk tp] e pos) (tS X.K env st (.next env1) st') := by
  obtain ⟨g1, g2, g3⟩ := tgt_row o hn
  refine PS.weak (ps_asg (hV k c d X e env st _ st' o.x h) (pg_tup o.x.calm g1 g2 g3) (by show swapsWith e (some (.Tuple ts kk tp)) pos.line X.env = pure false; exact swaps_no hc) (by cases e <;> first | rfl | cases ht)) fun D σ H ⟨φ, sv, q⟩ => ⟨φ, sv, fun φ1 H1 u e1 s1 r1 f1 => ?_⟩
  exact gT_go (tg := .tup is) (sv.mono e1 s1) r1 hs fun us hus sv1 => q φ1 _ H1 e1 sv1
theorem slot_inj {N : List Str} {x y : Str} {i : Nat} (h1 : slotOf N x = some i) (h2 : slotOf N y = some i) : x = y := by
  have a := slot_get h1
  have b := slot_get h2
  rw [a] at b
  exact Option.some.inj b
/-- one store of a swapped row -/
def swF (c : Cc) (ln : Nat) (t : Expr) : Option Str := match t with
  | .Name id pos => if c.sc.names.lookup id == some .local && pos.line == ln then some id else none
  | _ => none
theorem swF_some {c : Cc} {ln : Nat} {t : Expr} {x : Str} (h : swF c ln t = some x) : ∃ p, t = .Name x p ∧ c.sc.names.lookup x = some .local := by
  unfold swF at h
  split at h
  · split at h
    · rename_i hc
      cases (Option.some.inj h)
      have z := (Bool.and_eq_true_iff.mp hc).1
      refine ⟨_, rfl, ?_⟩
      cases q : c.sc.names.lookup x with
      | none => rw [q] at z; cases z
      | some kd =>
        rw [q] at z
        cases kd <;> first | rfl | (revert z; decide)
    · cases h
  · cases h
theorem swN_eq (c : Cc) (ts : List Expr) : swN c ts = ts.filterMap (swF c ((ts.head?.map (·.pos.line)).getD 0)) := by
  unfold swN swF
  rfl
theorem sw_inv {c : Cc} {ts es : List Expr} {names : List Str} (h : swC c ts es = some (some names)) : (ts.length = 2 ∨ ts.length = 3) ∧ names = swN c ts ∧ (swN c ts).length = ts.length ∧ (swN c ts).eraseDups.length = (swN c ts).length := by
  unfold swC at h
  cases c1 : (!(ts.length == 2 || ts.length == 3) || es.length != ts.length) with
  | true => rw [c1] at h; cases (Option.some.inj h)
  | false =>
    rw [c1] at h
    cases c2 : ((swN c ts).length != ts.length || (swN c ts).eraseDups.length != (swN c ts).length) with
    | true => rw [c2] at h; cases (Option.some.inj h)
    | false =>
      rw [c2] at h
      cases c3 : es.all (foldedForSure 8) with
      | true => rw [c3] at h; cases (Option.some.inj h)
      | false =>
        rw [c3] at h
        cases c4 : es.all (constantsAlone 8) with
        | true => rw [c4] at h; cases h
        | false =>
          rw [c4] at h
          cases (Option.some.inj h)
          simp at c1 c2
          exact ⟨by omega, rfl, c2.1, c2.2⟩
theorem dup2 {x y : Str} (h : ([x, y] : List Str).eraseDups.length = 2) : x ≠ y := by
  intro e
  subst e
  simp [List.eraseDups_cons] at h
theorem dup3 {x y z : Str} (h : ([x, y, z] : List Str).eraseDups.length = 3) : x ≠ y ∧ x ≠ z ∧ y ≠ z := by
  refine ⟨fun e => ?_, fun e => ?_, fun e => ?_⟩
  · subst e
    simp only [List.eraseDups_cons, List.filter_cons] at h
    by_cases q : z = x
    · simp [q] at h
    · simp [q, List.eraseDups_cons] at h
  · subst e
    simp only [List.eraseDups_cons, List.filter_cons] at h
    by_cases q : y = x
    · simp [q] at h
    · simp [q, List.eraseDups_cons] at h
  · subst e
    simp only [List.eraseDups_cons, List.filter_cons] at h
    by_cases q : y = x
    · simp [q] at h
    · simp [q, List.eraseDups_cons] at h
theorem names_cons {c : Cc} {x : Str} {p : Pos} {ts : List Expr} {is : List Nat} (h : namesOf c (.Name x p :: ts) = some is) : ∃ i is', is = i :: is' ∧ slotOf c.N x = some i ∧ namesOf c ts = some is' := by
  unfold namesOf at h
  rw [List.map_cons] at h
  dsimp only at h
  cases hl : locB c.sc x with
  | false => rw [hl] at h; cases h
  | true =>
    rw [hl] at h
    cases hs : slotOf c.N x with
    | none => rw [hs] at h; cases h
    | some i =>
      rw [hs] at h
      obtain ⟨is', h1, h2⟩ := Option.map_eq_some_iff.mp h
      exact ⟨i, is', h2.symm, rfl, h1⟩
/-- a, b, .. = e, f, .. -/
theorem s_par (hV : OkV G (run G n).V) (o : XSt G c d X) {ts es : List Expr} {kk k2 : Nat} {tp p2 pos : Pos} {is : List Nat} {vs : List PV} {env1 : Env} {r : Option (List Str)} (hn : namesOf c ts = some is) (hsw : swC c ts es = some r) (hst : es.all notStar = true) (hl : ts.length = es.length) (h1k : ts.length ≤ 1000)
    (h : evL (evE fun e s => (run G n).V d e env s) (es.map (compE k c)) st = some (vs, st')) (hs : setT env is vs = some env1) : PS X (.Assign [.Tuple ts kk tp] (.Tuple es k2 p2) pos) (tS X.K env st (.next env1) st') := by
  have hw := sw_ok (en := X.env) (kk := kk) (k2 := k2) (p := tp) (p2 := p2) o.x.sc o.kind hst hsw
  have pa := pa_E hV o.x hst h
  cases r with
  | none =>
    obtain ⟨g1, g2, g3⟩ := tgt_row o hn
    refine PS.weak (ps_asg (pe_tup pa) (pg_tup o.x.calm g1 g2 g3) rfl hw) fun D σ H ⟨φ, sv, q⟩ => ⟨φ, sv, fun φ1 H1 us e1 s1 r1 => ⟨?_, fun p hp => ?_⟩⟩
    · -- the tuple is as long as its target
      have l1 : is.length = vs.length := setT_len hs
      have l2 : (ts.length) = is.length := (allSome_map hn).1
      rw [← r1.length, ← l1, ← l2]
      exact Nat.le_trans h1k (by decide)
    · have hp' : Evo φ1 φ1 H1 (upd H1 p (.tup us)) := .new hp
      exact gT_go (tg := .tup is) (sv.mono (e1.trans hp') (s1.new hp)) (.tup (.inl (.inl upd_same)) (r1.mono hp')) hs fun us hus sv1 => q φ1 _ _ (e1.trans hp') sv1
  | some names =>
    obtain ⟨n1, n2, n3, n4⟩ := sw_inv hsw
    rw [swN_eq] at n2 n3 n4
    rcases n1 with n1 | n1
    · match ts, es, n1, hl, n2, n3, n4, hn, hw, pa with
      | [t1, t2], [a, b], _, _, n2, n3, n4, hn, hw, pa =>
        cases q1 : swF c ((([t1, t2] : List Expr).head?.map (·.pos.line)).getD 0) t1 with
        | none =>
          rw [List.filterMap_cons, q1] at n3
          have := List.length_filterMap_le (swF c ((([t1, t2] : List Expr).head?.map (·.pos.line)).getD 0)) [t2]
          dsimp only at n3
          simp at n3 this
          omega
        | some x =>
          cases q2 : swF c ((([t1, t2] : List Expr).head?.map (·.pos.line)).getD 0) t2 with
          | none =>
            rw [List.filterMap_cons, q1] at n3
            dsimp only at n3
            rw [List.filterMap_cons, q2] at n3
            simp at n3
          | some y =>
            rw [List.filterMap_cons, q1] at n2 n4
            dsimp only at n2 n4
            rw [List.filterMap_cons, q2] at n2 n4
            dsimp only at n2 n4
            rw [List.filterMap_nil] at n2 n4
            have hxy := dup2 n4
            obtain ⟨px, rfl, lx⟩ := swF_some q1
            obtain ⟨py, rfl, ly⟩ := swF_some q2
            subst n2
            obtain ⟨i, is', rfl, si, hn⟩ := names_cons hn
            obtain ⟨j, is'', rfl, sj, hn⟩ := names_cons hn
            cases (Option.some.inj hn)
            have hN : X.N.Nodup := by rw [o.x.N]; exact o.x.nd
            have hij : i ≠ j := fun e => hxy (slot_inj si (by rw [e]; exact sj))
            refine PS.weak (ps_par (i := i) (j := j) o.x.calm hN (by rw [o.x.N]; exact slot_get si) (by rw [o.x.N]; exact slot_get sj) hij (by rw [o.x.sc]; exact lx) (by rw [o.x.sc]; exact ly) pa hw rfl) fun D σ H ⟨φ, sv, q⟩ => ⟨φ, sv, fun φ1 H1 us e1 s1 r1 => ?_⟩
            have l1 := setT_len hs
            match vs, us, l1, r1, hs with
            | [v, w], _, _, .cons r1 (.cons r2 .nil), hs =>
              have z := SV.sets (sv.mono e1 s1) (.cons r1 (.cons r2 .nil)) hs
              exact ⟨_, _, rfl, q φ1 _ H1 e1 z⟩
    · match ts, es, n1, hl, n2, n3, n4, hn, hw, pa with
      | [t1, t2, t3], [a, b, e], _, _, n2, n3, n4, hn, hw, pa =>
        generalize hln : ((([t1, t2, t3] : List Expr).head?.map (·.pos.line)).getD 0) = ln at n2 n3 n4
        cases q1 : swF c ln t1 with
        | none =>
          rw [List.filterMap_cons, q1] at n3
          have := List.length_filterMap_le (swF c ln) [t2, t3]
          dsimp only at n3
          simp only [List.length_cons, List.length_nil] at n3 this
          omega
        | some x =>
          rw [List.filterMap_cons, q1] at n2 n3 n4
          dsimp only at n2 n3 n4
          cases q2 : swF c ln t2 with
          | none =>
            rw [List.filterMap_cons, q2] at n3
            have := List.length_filterMap_le (swF c ln) [t3]
            dsimp only at n3
            simp only [List.length_cons, List.length_nil] at n3 this
            omega
          | some y =>
            rw [List.filterMap_cons, q2] at n2 n3 n4
            dsimp only at n2 n3 n4
            cases q3 : swF c ln t3 with
            | none =>
              rw [List.filterMap_cons, q3] at n3
              simp at n3
            | some z =>
              rw [List.filterMap_cons, q3] at n2 n4
              dsimp only at n2 n4
              rw [List.filterMap_nil] at n2 n4
              have hxy := dup3 n4
              obtain ⟨px, rfl, lx⟩ := swF_some q1
              obtain ⟨py, rfl, ly⟩ := swF_some q2
              obtain ⟨pz, rfl, lz⟩ := swF_some q3
              subst n2
              obtain ⟨i, is', rfl, si, hn⟩ := names_cons hn
              obtain ⟨j, is'', rfl, sj, hn⟩ := names_cons hn
              obtain ⟨l, is3, rfl, sl, hn⟩ := names_cons hn
              cases (Option.some.inj hn)
              have hN : X.N.Nodup := by rw [o.x.N]; exact o.x.nd
              refine PS.weak (ps_par3 (i := i) (j := j) (l := l) o.x.calm hN (by rw [o.x.N]; exact slot_get si) (by rw [o.x.N]; exact slot_get sj) (by rw [o.x.N]; exact slot_get sl) (fun e => hxy.1 (slot_inj si (by rw [e]; exact sj))) (fun e => hxy.2.1 (slot_inj si (by rw [e]; exact sl)))
                (fun e => hxy.2.2 (slot_inj sj (by rw [e]; exact sl))) (by rw [o.x.sc]; exact lx) (by rw [o.x.sc]; exact ly) (by rw [o.x.sc]; exact lz) pa hw rfl) fun D σ H ⟨φ, sv, q⟩ => ⟨φ, sv, fun φ1 H1 us e1 s1 r1 => ?_⟩
              have l1 := setT_len hs
              match vs, us, l1, r1, hs with
              | [v, w, u], _, _, .cons r1 (.cons r2 (.cons r3 .nil)), hs =>
                have z := SV.sets (sv.mono e1 s1) (.cons r1 (.cons r2 (.cons r3 .nil))) hs
                exact ⟨_, _, _, rfl, q φ1 _ H1 e1 z⟩
end
end MI
end
section
set_option Elab.async false
set_option linter.all false
set_option maxRecDepth 100000
set_option maxHeartbeats 4000000
/-! MI13: the other statements; all statements. -/
namespace MI
open PySem PySem.Spec PyProof.Rows L2
section
variable {G : List Fn} {fS : Nat → IS → Env → Store → Option (Out × Store)} {fT : Nat → IE → Env → Store → Option (Bool × Store)} {d n k : Nat} {c : Cc} {X : Cx} {env : Env} {st st' : Store}
theorem s_put (hV : OkV G (run G n).V) (o : XSt G c d X) {e ob : Expr} {s : Str} {kk : Nat} {p p2 pos : Pos} {v : PV} {m : Nat} {kvs : List (Key × PV)} {st1 st2 : Store} (hc : notComp e = true) (h1 : evE (fun e s => (run G n).V d e env s) (compE k c e) st = some (v, st1))
    (h2 : (run G n).V d (compE k c ob) env st1 = some (.val (.ref m), st2)) (h3 : st2[m]? = some (.dct kvs)) (h4 : kvs.length < lim) :
    PS X (.Assign [.Subscript ob (.Constant (.str s) kk p) p2] e pos) (tS X.K env st (.next env) (st2.set m (.dct (dctPut kvs (.inr s) v)))) := by
  obtain ⟨r, hr1, hr2⟩ := Option.map_eq_some_iff.mp h1
  have p1 := pe_alloc (r := r) (hV k c d X e env st r.1 r.2 o.x hr1)
  rw [hr2] at p1
  refine PS.weak (ps_dput o.x.un1 (hV k c d X ob env st1 _ st2 o.x h2) pe_str p1 (swaps_no hc)) fun D σ H ⟨φ, sv, q⟩ => ⟨φ, sv, fun φ1 H1 u e1 s1 r1 => ⟨φ1, sv.mono e1 s1, fun φ2 H2 u2 e2 s2 r2 f2 => ?_⟩⟩
  obtain ⟨a, rfl, ha⟩ := RelP.ref_inv r2
  obtain ⟨kws, hw, rk⟩ := s2.at_ m _ a h3 ha
  have kp : ∀ o, Keeps H2 (upd H2 a o) := fun o => .upd hw trivial
  refine ⟨a, _, rfl, DPut.k (k := .inr s) hw (by rw [← rk.length]; exact lim_lt h4), ?_⟩
  have ev : Evo φ φ2 H (upd H2 a (.dK (putK kws (.inr s) u))) := (e1.trans e2).trans (.write ha hw trivial)
  have sw' : StR X.K φ2 (upd H2 a (.dK (putK kws (.inr s) u))) (st2.set m (.dct (dctPut kvs (.inr s) v))) := s2.write (List.getElem?_eq_some_iff.mp h3).1 ha hw trivial ⟨_, upd_same, RelK.keep (kp _) (rk.put (r1.mono e2))⟩
  exact q φ2 σ _ ev (sv.mono ev sw')
theorem s_if (hT : OkT G fT) (hS : OkS G fS) (o : XSt G c d X) {t : Expr} {a b : List Stmt} {pos : Pos} {cd : Bool} {out : Out} {st1 : Store} (h1 : fT d (testE tj (compE k c) t) env st = some (cd, st1))
    (h2 : (match cd with
      | true => runSs (fS d) (a.map (compS k c)) env st1
      | false => runSs (fS d) (b.map (compS k c)) env st1) = some (out, st')) : PS X (.If t a b pos) (tS X.K env st out st') := by
  have p1 := hT tj k c d X t env st cd st1 o.x h1
  cases cd with
  | true =>
    refine PS.weak (ps_if p1 (runSs_ok hS o h2) pss_no) fun D σ H ⟨φ, sv, q⟩ => ⟨φ, sv, fun φ1 H1 e1 s1 => ?_⟩
    exact ⟨φ1, sv.mono e1 s1, q.step e1⟩
  | false =>
    refine PS.weak (ps_if p1 pss_no (runSs_ok hS o h2)) fun D σ H ⟨φ, sv, q⟩ => ⟨φ, sv, fun φ1 H1 e1 s1 => ?_⟩
    exact ⟨φ1, sv.mono e1 s1, q.step e1⟩
theorem s_while (hT : OkT G fT) (hS : OkS G fS) (o : XSt G c d X) {t : Expr} {b : List Stmt} {pos : Pos} {out : Out} {N : Nat} (h : loopW (fT d) (fS d) (testE tj (compE k c) t) (b.map (compS k c)) N env st = some (out, st')) :
    PS X (.While t b [] pos) (tS X.K env st out st') := by
  let tc : TT := fun σ H Q => ∃ t', PT X t t' ∧ t' σ H Q
  let tb : TS := fun D σ H => ∃ t', PSs X b t' ∧ t' D σ H
  have hc : PT X t tc := ⟨fun pins s' σ H' Q I ⟨t', ht, q⟩ => ht.run pins s' σ H' Q I q⟩
  have hb : PSs X b tb := ⟨fun pins s' σ H' D I ⟨t', ht, q⟩ => ht.run pins s' σ H' D I q⟩
  refine PS.weak (ps_while o.pass hc hb) fun D σ H ⟨φ, sv, q⟩ => ?_
  refine ⟨fun m σ2 H2 => ∃ env2 st2 φ2, loopW (fT d) (fS d) (testE tj (compE k c) t) (b.map (compS k c)) m env2 st2 = some (out, st') ∧ SV X.K φ2 σ2 H2 env2 st2 ∧ PostS X.K φ2 H2 out st' D, ⟨N, env, st, φ, h, sv, q⟩, ?_⟩
  rintro m σ2 H2 ⟨env2, st2, φ2, hl, sv2, q2⟩
  cases m with
  | zero => cases hl
  | succ m =>
    obtain ⟨⟨cd, st3⟩, h1, h2⟩ := Option.bind_eq_some_iff.mp (show (fT d (testE tj (compE k c) t) env2 st2).bind _ = some (out, st') from hl)
    refine ⟨_, hT tj k c d X t env2 st2 cd st3 o.x h1, φ2, sv2, fun φ3 H3 e3 s3 => ?_⟩
    have sv3 := sv2.mono e3 s3
    cases cd with
    | false =>
      cases (Option.some.inj h2)
      refine iteF ?_
      exact q2 φ3 σ2 H3 e3 sv3
    | true =>
      refine iteT ?_
      obtain ⟨⟨o1, st4⟩, h3, h4⟩ := Option.bind_eq_some_iff.mp h2
      refine ⟨fun σ' H' => ∃ env2 st2 φ2, loopW (fT d) (fS d) (testE tj (compE k c) t) (b.map (compS k c)) m env2 st2 = some (out, st') ∧ SV X.K φ2 σ' H' env2 st2 ∧ PostS X.K φ2 H' out st' D, fun σ' H' p => ⟨m, Nat.lt_succ_self m, p⟩, _, runSs_ok hS o h3, φ3, sv3, ?_⟩
      have q3 := q2.step e3
      cases o1 with
      | next env4 => exact fun φ4 σ4 H4 e4 s4 => ⟨env4, st4, φ4, h4, s4, q3.step e4⟩
      | cont env4 => exact fun φ4 σ4 H4 e4 s4 => ⟨env4, st4, φ4, h4, s4, q3.step e4⟩
      | brk env4 => cases (Option.some.inj h4); exact q3
      | ret v => cases (Option.some.inj h4); exact q3
theorem s_for (hV : OkV G (run G n).V) (hS : OkS G fS) (o : XSt G c d X) {tg it : Expr} {b : List Stmt} {pos : Pos} {g : Tg} {out : Out} {src : Src} {st1 : Store} {N : Nat} (h1 : tgOf c tg = some g) (h2 : notSet it = true) (h3 : tgFits tg (ikOf c it) = true)
    (h4 : iterOf (fun e s => (run G n).V d e env s) (ikOf c it) ((itArgs (ikOf c it) it).map (compE k c)) st = some (src, st1)) (h : loopF (fS d) g (b.map (compS k c)) src N 0 env st1 = some (out, st')) :
    PS X (.For tg it b [] pos) (tS X.K env st out st') := by
  have hg : PG X tg (gT X.K g) := pg_of (P := locB c.sc) o.x.N o.x.nd o.x.calm (fun x hx => ⟨by rw [o.x.sc]; exact loc_of hx, .inl (o.fn x)⟩) (g := g) (by unfold tgOf at h1; cases tg <;> exact h1)
  let tb : TS := fun D σ H => ∃ t', PSs X b t' ∧ t' D σ H
  have hb : PSs X b tb := ⟨fun pins s' σ H' D I ⟨t', ht, q⟩ => ht.run pins s' σ H' D I q⟩
  have hset : ∀ x, foldedSetIterable it X.env x = pure x := fun x => by cases it <;> first | rfl | cases h2
  refine PS.weak (ps_for o.pass o.x.calm (it_ok hV o.x h3 h4) hg hb hset) fun D σ H ⟨φ, sv, q⟩ => ⟨φ, sv, fun φ1 H1 J e1 s1 wr => ?_⟩
  refine ⟨fun i m σ2 H2 => ∃ env2 st2 φ2, loopF (fS d) g (b.map (compS k c)) src m i env2 st2 = some (out, st') ∧ Evo φ1 φ2 H1 H2 ∧ SV X.K φ2 σ2 H2 env2 st2 ∧ PostS X.K φ2 H2 out st' D, ⟨N, env, st1, φ1, h, .refl _ _, sv.mono e1 s1, q.step e1⟩, ?_⟩
  rintro i m σ2 H2 ⟨env2, st2, φ2, hl, e2, sv2, q2⟩
  cases m with
  | zero => cases hl
  | succ m =>
    obtain ⟨ov, hat, hl⟩ := Option.bind_eq_some_iff.mp (show (src.at st2 i).bind _ = some (out, st') from hl)
    obtain ⟨w1, w2⟩ := wr i φ2 H2 st2 e2 sv2.st
    cases ov with
    | none =>
      cases (Option.some.inj hl)
      exact .inl ⟨w1 hat, q2 φ2 σ2 H2 (.refl _ _) sv2⟩
    | some v =>
      obtain ⟨go, yl⟩ := w2 v hat
      obtain ⟨env3, hs, hl⟩ := Option.bind_eq_some_iff.mp hl
      obtain ⟨⟨o1, st3⟩, hi, hl⟩ := Option.bind_eq_some_iff.mp hl
      refine .inr ⟨go, fun σ' H' => ∃ env2 st2 φ2, loopF (fS d) g (b.map (compS k c)) src m (i + 1) env2 st2 = some (out, st') ∧ Evo φ1 φ2 H1 H' ∧ SV X.K φ2 σ' H' env2 st2 ∧ PostS X.K φ2 H' out st' D, fun σ' H' p => ⟨m, Nat.lt_succ_self m, p⟩, fun x H3 y => ?_⟩
      obtain ⟨e3, rv, s3⟩ := yl x H3 y
      refine gT_go (sv2.mono e3 s3) rv hs fun us hus sv3 => ⟨_, runSs_ok hS o hi, φ2, sv3, ?_⟩
      have q3 := q2.step e3
      have e3' := e2.trans e3
      cases o1 with
      | next env4 => exact fun φ4 σ4 H4 e4 s4 => ⟨env4, st3, φ4, hl, e3'.trans e4, s4, q3.step e4⟩
      | cont env4 => exact fun φ4 σ4 H4 e4 s4 => ⟨env4, st3, φ4, hl, e3'.trans e4, s4, q3.step e4⟩
      | brk env4 => cases (Option.some.inj hl); exact q3
      | ret w => cases (Option.some.inj hl); exact q3
theorem never_no {G : List Fn} {n d : Nat} {env : Env} {st : Store} : (run G n).V d .never env st = none := by
  cases n <;> rfl
theorem s_all (hS : OkS G (run G n).S) (o : XSt G c d X) {s : Stmt} {out : Out} (h : stepS n (run G n) d (compS (k + 1) c s) env st = some (out, st')) : PS X s (tS X.K env st out st') := by
  have hV := okV G n
  have hT := okT G n
  have asg : ∀ {x : Str} {p pos : Pos} {e : Expr}, stepS n (run G n) d (bif locB c.sc x then (match slotOf c.N x with
        | some i => IS.asg i (compE k c e)
        | none => .never)
      else .never) env st = some (out, st') → PS X (.Assign [.Name x p] e pos) (tS X.K env st out st') := by
    intro x p pos e h
    cases hl : locB c.sc x with
    | false => rw [hl] at h; cases h
    | true =>
      rw [hl] at h
      cases hs : slotOf c.N x with
      | none => rw [hs] at h; cases h
      | some i =>
        rw [hs] at h
        obtain ⟨⟨v, st1⟩, h1, h2⟩ := Option.map_eq_some_iff.mp (show (evE (fun e s => (run G n).V d e env s) (compE k c e) st).map _ = some (out, st') from h)
        cases h2
        obtain ⟨r, hr1, hr2⟩ := Option.map_eq_some_iff.mp h1
        have e1 : v = (allocR r).1 := by rw [hr2]
        have e2 : st' = (allocR r).2 := by rw [hr2]
        subst e1; subst e2
        cases hc : notComp e with
        | true => exact s_asg hV o hl hs hc hr1
        | false =>
          cases e with
          | ListComp elt gs scope cp => exact s_asgC o hl hs hr1
          | SetComp _ _ _ _ => exact absurd (hr1.symm.trans (show (run G n).V d (compE k c _) env st = none by cases k <;> exact never_no)) (by simp)
          | DictComp _ _ _ _ _ => exact absurd (hr1.symm.trans (show (run G n).V d (compE k c _) env st = none by cases k <;> exact never_no)) (by simp)
          | _ => cases hc
  have asgT : ∀ {ts : List Expr} {kk : Nat} {tp pos : Pos} {e : Expr}, stepS n (run G n) d (match namesOf c ts with
      | some ns => bif notComp e && notTuple e then IS.asgT ns (compE k c e) else .never
      | none => .never) env st = some (out, st') → PS X (.Assign [.Tuple ts kk tp] e pos) (tS X.K env st out st') := by
    intro ts kk tp pos e h
    cases hn : namesOf c ts with
    | none => rw [hn] at h; cases h
    | some ns =>
      rw [hn] at h
      dsimp only at h
      cases hc : (notComp e && notTuple e) with
      | false => rw [hc] at h; cases h
      | true =>
        rw [hc] at h
        have hc2 := Bool.and_eq_true_iff.mp hc
        obtain ⟨⟨v, st1⟩, h1, h2⟩ := Option.bind_eq_some_iff.mp (show ((run G n).V d (compE k c e) env st).bind _ = some (out, st') from h)
        dsimp only at h2
        split at h2
        · obtain ⟨env1, h3, h4⟩ := Option.map_eq_some_iff.mp h2
          cases h4
          exact s_asgT hV o hn hc2.1 hc2.2 h1 h3
        · cases h2
  unfold compS at h
  split at h
  · exact asg h
  · rename_i ts kk tp es k2 p2 pos
    cases hn : namesOf c ts with
    | none => rw [hn] at h; cases h
    | some ns =>
      cases hw : swC c ts es with
      | none => rw [hn, hw] at h; cases h
      | some r =>
        rw [hn, hw] at h
        dsimp only at h
        cases hc : (es.all notStar && (decide (ts.length = es.length) && decide (ts.length ≤ 1000))) with
        | false => rw [hc] at h; cases h
        | true =>
          rw [hc] at h
          have c1 := Bool.and_eq_true_iff.mp hc
          have c2 := Bool.and_eq_true_iff.mp c1.2
          obtain ⟨⟨vs, st1⟩, h1, h2⟩ := Option.bind_eq_some_iff.mp (show (evL (evE fun e s => (run G n).V d e env s) (es.map (compE k c)) st).bind _ = some (out, st') from h)
          obtain ⟨env1, h3, h4⟩ := Option.map_eq_some_iff.mp h2
          cases h4
          exact s_par hV o hn hw c1.1 (of_decide_eq_true c2.1) (of_decide_eq_true c2.2) h1 h3
  · exact asgT h
  · rename_i ob s kk p p2 e pos
    cases hc : notComp e with
    | false => rw [hc] at h; cases h
    | true =>
      rw [hc] at h
      obtain ⟨⟨v, st1⟩, h1, h2⟩ := Option.bind_eq_some_iff.mp (show (evE (fun e s => (run G n).V d e env s) (compE k c e) st).bind _ = some (out, st') from h)
      obtain ⟨⟨x, st2⟩, h3, h4⟩ := Option.bind_eq_some_iff.mp h2
      dsimp only at h4
      split at h4
      · rename_i m
        split at h4
        · rename_i kvs he
          cases hl : decide (kvs.length < lim) with
          | false => rw [hl] at h4; cases h4
          | true =>
            rw [hl] at h4
            cases (Option.some.inj h4)
            exact s_put hV o hc h1 h3 he (of_decide_eq_true hl)
        · cases h4
      · cases h4
  · rename_i t a b pos
    obtain ⟨⟨cd, st1⟩, h1, h2⟩ := Option.bind_eq_some_iff.mp (show ((run G n).T d (testE tj (compE k c) t) env st).bind _ = some (out, st') from h)
    exact s_if hT hS o h1 (by cases cd <;> exact h2)
  · exact s_while hT hS o h
  · rename_i tg it b pos
    cases hg : tgOf c tg with
    | none => rw [hg] at h; cases h
    | some g =>
      rw [hg] at h
      dsimp only at h
      cases hc : (notSet it && tgFits tg (ikOf c it)) with
      | false => rw [hc] at h; cases h
      | true =>
        rw [hc] at h
        have hc2 := Bool.and_eq_true_iff.mp hc
        obtain ⟨⟨src, st1⟩, h1, h2⟩ := Option.bind_eq_some_iff.mp (show (iterOf (fun e s => (run G n).V d e env s) (ikOf c it) ((itArgs (ikOf c it) it).map (compE k c)) st).bind _ = some (out, st') from h)
        exact s_for hV hS o hg hc2.1 hc2.2 h1 h2
  · rename_i e pos
    obtain ⟨⟨v, st1⟩, h1, h2⟩ := Option.map_eq_some_iff.mp (show (evE (fun e s => (run G n).V d e env s) (compE k c e) st).map _ = some (out, st') from h)
    cases h2
    obtain ⟨r, hr1, hr2⟩ := Option.map_eq_some_iff.mp h1
    have p1 := pe_alloc (r := r) (hV k c d X e env st r.1 r.2 o.x hr1)
    rw [hr2] at p1
    exact PS.weak (ps_ret p1) fun D σ H ⟨φ, sv, q⟩ => ⟨φ, sv, q⟩
  · cases (Option.some.inj h)
    exact PS.weak ps_retN fun D σ H ⟨φ, sv, q⟩ => q φ H .non (.refl _ _) sv.st .non
  · rename_i e pos
    cases hc : notComp e with
    | false => rw [hc] at h; cases h
    | true =>
      rw [hc] at h
      obtain ⟨⟨v, st1⟩, h1, h2⟩ := Option.map_eq_some_iff.mp (show ((run G n).V d (compE k c e) env st).map _ = some (out, st') from h)
      cases h2
      exact PS.weak (ps_expr (hV k c d X e env st v st' o.x h1) (swaps_no hc)) fun D σ H ⟨φ, sv, q⟩ => ⟨φ, sv, fun φ1 H1 u e1 s1 r1 f1 => q φ1 σ H1 e1 (sv.mono e1 s1)⟩
  · cases (Option.some.inj h)
    exact PS.weak ps_pass fun D σ H ⟨φ, sv, q⟩ => q φ σ H (.refl _ _) sv
  · cases (Option.some.inj h)
    exact PS.weak ps_break fun D σ H ⟨φ, sv, q⟩ => q φ σ H (.refl _ _) sv
  · cases (Option.some.inj h)
    exact PS.weak ps_continue fun D σ H ⟨φ, sv, q⟩ => q φ σ H (.refl _ _) sv
  · cases h
theorem okS (G : List Fn) : ∀ n, OkS G (run G n).S
  | 0 => fun k c d X s env st out st' o h => nomatch h
  | n + 1 => fun k c d X s env st out st' o h => by
    cases k with
    | zero => cases h
    | succ k => exact s_all (okS G n) o h
end
end MI
end
section
set_option Elab.async false
set_option linter.all false
set_option maxRecDepth 100000
set_option maxHeartbeats 4000000
/-! MI14: the defs. -/
namespace MI
open PySem PySem.Spec PyProof.Rows L2
/-- a def of the text: its name, statement, parameters, slots -/
structure Row where
  x : Str
  st : Stmt
  ps : List Str
  N : List Str
structure Tab where
  csts : List (Str × Int)
  tys : List (Str × String)
  bis : List (Str × Bi)
  KF : List (Nat × List Str × List Nat)
def ccOf (T : Tab) (rows : List Row) (r : Row) : Cc := ⟨r.N, defScope r.st, rows.map fun r => (r.x, r.ps), T.csts, T.tys, T.bis, T.KF⟩
def fnOf (T : Tab) (rows : List Row) (r : Row) : Fn := ⟨r.ps.length, r.N.length, (defBody r.st).map (compS 60 (ccOf T rows r))⟩
def rowC (r : Row) : Bool := C8.scC r.N r.ps (defScope r.st) && (r.N.all (fun x => !(x == ("__debug__" : Str)) && !(x == ("__classdict__" : Str))) && !(r.x == ("__debug__" : Str)))
structure Top (K : PySem.W.Frag) (mg : Str → Option Value) (T : Tab) (rows : List Row) : Prop where
  ok : ∀ r ∈ rows, rowC r = true
  tys : ∀ x n, T.tys.lookup x = some n → mg x = none ∧ bootBuiltins x = some (.type n) ∧ x ≠ "__name__" ∧ (x == ("__debug__" : Str)) = false
  csts : ∀ x z, T.csts.lookup x = some z → (∃ t, mg x = some (.int z t)) ∧ (x == ("__debug__" : Str)) = false
  bis : ∀ x b, T.bis.lookup x = some b → x = (biVal b).1 ∧ mg x = none ∧ bootBuiltins x = some (biVal b).2 ∧ x ≠ "__name__" ∧ (x == ("__debug__" : Str)) = false
  defs : ∀ (j : Nat) r, rows[j]? = some r → ∃ f fd, FunD K r.x r.x (defArgs r.st) (defBody r.st) (defScope r.st) [] [] f fd ∧ mg r.x = some (.ref f) ∧ Binds K fd r.ps [] ∧ ∀ ks pm, (j, ks, pm) ∈ T.KF → KBn K fd r.ps (r.ps.length - ks.length) ks (gperm .none pm) (gperm .non pm)
section
variable {P : Program} {w : World} {K : PySem.W.Frag} {mg : Str → Option Value} {base : Heap} {T : Tab} {rows : List Row} {G : List Fn}
theorem start_sv {φ : List Addr} {H : Hp} {st : Store} {args : List PV} {vs : List V} {r : Row} (rel : RelPs K φ H args vs) (s : StR K φ H st) (hl : args.length = r.ps.length) :
    SV K φ (L2.start r.N vs) H (envOf ⟨r.ps.length, r.N.length, b⟩ args) st := by
  have l := rel.length
  refine ⟨fun i v h => ?_, s, ?_⟩
  · unfold envOf at h
    unfold L2.start
    rcases Nat.lt_or_ge i args.length with hi | hi
    · rw [List.getElem?_append_left (by rw [List.length_map]; exact hi), List.getElem?_map] at h
      rw [List.getElem?_append_left (by rw [List.length_map, ← l]; exact hi), List.getElem?_map]
      cases q : args[i]? with
      | none => rw [q] at h; cases h
      | some y =>
        rw [q] at h
        have e : y = v := by simpa using h
        subst e
        obtain ⟨u, h1, h2⟩ := rel.get q
        exact ⟨u, by rw [h1]; rfl, h2⟩
    · rw [List.getElem?_append_right (by rw [List.length_map]; exact hi), List.getElem?_replicate] at h
      split at h <;> simp at h
  · unfold envOf L2.start
    simp only [List.length_append, List.length_map, List.length_replicate]
    rw [← l, hl]
theorem fn_ok (W : Top K mg T rows) (hG : G = rows.map (fnOf T rows)) : ∀ (d j : Nat) (r : Row) (f : Addr) (fd : FuncData), rows[j]? = some r → FunD K r.x r.x (defArgs r.st) (defBody r.st) (defScope r.st) [] [] f fd → FnOk P w K mg base CX0 d f fd r.ps (spF K G d j)
  | 0, j, r, f, fd, hr, F => by
    have no : ∀ vs H Q E, ¬ spF K G 0 j vs H Q E := by
      rintro vs H Q E ⟨n, φ, args, st, v, st', h1, h2, h3, h4⟩
      cases n with
      | zero => cases h3
      | succ n => cases h3
    exact ⟨fun vs H Q E h => (no _ _ _ _ h).elim, fun A outer s H args us vs Q E _ _ _ _ h => (no _ _ _ _ h).elim⟩
  | d + 1, j, r, f, fd, hr, F => by
    have okr := Bool.and_eq_true_iff.mp (W.ok r (List.mem_of_getElem? hr))
    have okr2 := Bool.and_eq_true_iff.mp okr.2
    have gj : G[j]? = some (fnOf T rows r) := by rw [hG, List.getElem?_map, hr]; rfl
    have inv : ∀ {n : Nat} {args : List PV} {st st' : Store} {v : PV}, (run G n).C (d + 1) j args st = some (v, st') → args.length = r.ps.length ∧ ∃ m o, runSs ((run G m).S d) ((defBody r.st).map (compS 60 (ccOf T rows r))) (envOf (fnOf T rows r) args) st = some (o, st') ∧ (o = .ret v ∨ ∃ env, o = .next env ∧ v = .non) := by
      intro n args st st' v h
      cases n with
      | zero => cases h
      | succ m =>
        replace h : stepC G (run G m) (d + 1) j args st = some (v, st') := h
        unfold stepC at h
        dsimp only at h
        rw [gj] at h
        dsimp only at h
        cases q : decide (args.length = (fnOf T rows r).np) with
        | false => rw [q] at h; cases h
        | true =>
          rw [q] at h
          obtain ⟨⟨o, st1⟩, h1, h2⟩ := Option.bind_eq_some_iff.mp (show (runSs ((run G m).S d) ((defBody r.st).map (compS 60 (ccOf T rows r))) (envOf (fnOf T rows r) args) st).bind _ = some (v, st') from h)
          refine ⟨of_decide_eq_true q, m, o, ?_⟩
          dsimp only at h2
          cases o with
          | ret v' => cases (Option.some.inj h2); exact ⟨h1, .inl rfl⟩
          | next env => cases (Option.some.inj h2); exact ⟨h1, .inr ⟨env, rfl, rfl⟩⟩
          | brk _ => cases h2
          | cont _ => cases h2
    have len : ∀ vs H Q E, spF K G (d + 1) j vs H Q E → vs.length = r.ps.length := by
      rintro vs H Q E ⟨n, φ, args, st, v, st', h1, h2, h3, h4⟩
      rw [← h1.length]
      exact (inv h3).1
    refine F.ok (C8.fnScope_by okr.1) len fun cdv A outer s H vs Q E hroom ⟨n, φ, args, st, v, st', h1, h2, h3, h4⟩ => ?_
    obtain ⟨hl, m, o, hrun, ho⟩ := inv h3
    have xs : XSt G (ccOf T rows r) d (cxOf CX0 P w K mg base r.N r.x (defScope r.st) f cdv A outer s H E).nox := by
      refine ⟨⟨rfl, rfl, (C8.fnScope_by okr.1).nd, rfl, hroom, fun x hx => ?_, W.tys, W.csts, W.bis, fun i x ps hi => ?_⟩, fun _ => rfl, by show PySem.Env.blockKind _ = _; unfold PySem.Env.blockKind; show (if (defScope r.st).kind.isAnnotationScope = true then _ else (defScope r.st).kind) = _; rw [(C8.fnScope_by okr.1).kind]; rfl, PassesOwn.never⟩
      · have := Bool.and_eq_true_iff.mp (List.all_eq_true.mp okr2.1 x hx)
        exact ⟨by simpa using this.1, by simpa using this.2⟩
      · have hi' : ((rows.map fun r => (r.x, r.ps))[i]?) = some (x, ps) := hi
        rw [List.getElem?_map] at hi'
        cases q : rows[i]? with
        | none => rw [q] at hi'; cases hi'
        | some r2 =>
          rw [q] at hi'
          cases (Option.some.inj hi')
          obtain ⟨f2, fd2, F2, m2, b2, k2⟩ := W.defs i r2 q
          have okr3 := Bool.and_eq_true_iff.mp (Bool.and_eq_true_iff.mp (W.ok r2 (List.mem_of_getElem? q))).2
          exact ⟨f2, fd2, m2, F2.kp, b2, fn_ok W hG d i r2 f2 fd2 q F2, by simpa using okr3.2, k2⟩
    refine ⟨_, (runSs_ok (okS G m) xs hrun).nox, φ, start_sv h1 h2 hl, ?_⟩
    rcases ho with rfl | ⟨env, rfl, rfl⟩
    · exact fun φ' H' u e s2 r2 => h4 φ' H' u e s2 r2
    · exact fun φ' σ' H' e sv => h4 φ' H' .non e sv.st .non
/-- a law's def: run over its script, it ends by True -/
theorem law_ok (W : Top K mg T rows) (hG : G = rows.map (fnOf T rows)) {d j : Nat} {r : Row} {f : Addr} {fd : FuncData} (hr : rows[j]? = some r) (F : FunD K r.x r.x (defArgs r.st) (defBody r.st) (defScope r.st) [] [] f fd) (hp : r.ps.length = 1)
    (h : ∀ ns : List Int, ns.length ≤ 63 → ∃ n st', (run G n).C d j [.frz (ns.map .int)] [] = some (.bl true, st')) :
    FnOk P w K mg base CX0 d f fd r.ps (fun vs H Q _ => ∃ (a : Addr) (ns : List Int), vs = [.ref a] ∧ Only H ∧ SqL K H a (ns.map V.int) ∧ ns.length ≤ 63 ∧ ∀ H', Q (.bl true) H') := by
  refine (fn_ok W hG d j r f fd hr F).imp fun vs H Q E ⟨a, ns, e, hO, hS, hl, q⟩ => ?_
  subst e
  obtain ⟨n, st', hrun⟩ := h ns hl
  have rel : RelPs K [] H (ns.map .int) (ns.map V.int) := by
    clear hS hl hrun
    induction ns with
    | nil => exact .nil
    | cons i is ih => exact .cons (.int i) ih
  refine ⟨n, [], _, [], .bl true, st', .cons (.frz ?_ rel) .nil, ⟨rfl, .nil, fun n c a h _ => by simp at h⟩, hrun, fun φ' H' u e s r => ?_⟩
  · rcases hS with (hS | ⟨o, hS⟩) | hS
    · rcases hO a with z | ⟨o, xs, z⟩
      · rw [hS] at z; cases z
      · rw [hS] at z; cases z
    · exact .inl ⟨o, hS⟩
    · exact .inr fun H' => .inr hS
  · cases r
    exact q H'
end
end MI
end
section
set_option Elab.async false
set_option linter.all false
set_option maxRecDepth 100000
set_option maxHeartbeats 4000000
/-! MI15: more fuel, more depth: the same answer. -/
namespace MI
open PySem PySem.Spec PyProof.Rows L2
def OLe {α : Type} (o o' : Option α) : Prop := ∀ r, o = some r → o' = some r
theorem OLe.refl {α : Type} (o : Option α) : OLe o o := fun _ h => h
theorem OLe.bind {α β : Type} {o o' : Option α} {f f' : α → Option β} (h : OLe o o') (hf : ∀ a, OLe (f a) (f' a)) : OLe (o.bind f) (o'.bind f') := fun r q => by
  obtain ⟨a, h1, h2⟩ := Option.bind_eq_some_iff.mp q
  rw [h a h1]
  exact hf a r h2
theorem OLe.map {α β : Type} {o o' : Option α} {f : α → β} (h : OLe o o') : OLe (o.map f) (o'.map f) := fun r q => by
  obtain ⟨a, h1, h2⟩ := Option.map_eq_some_iff.mp q
  rw [h a h1]
  exact congrArg some h2
theorem OLe.none {α : Type} {o : Option α} : OLe Option.none o := fun _ h => nomatch h
theorem evL_le {α : Type} {f f' : IE → Store → Option (α × Store)} (h : ∀ e s, OLe (f e s) (f' e s)) : ∀ (es : List IE) (st : Store), OLe (evL f es st) (evL f' es st)
  | [], st => .refl _
  | e :: es, st => .bind (h e st) fun _ => .bind (evL_le h es _) fun _ => .refl _
theorem evE_le {f f' : IE → Store → Option (RV × Store)} (h : ∀ e s, OLe (f e s) (f' e s)) (e : IE) (st : Store) : OLe (evE f e st) (evE f' e st) := .map (h e st)
theorem optI_le {f f' : IE → Store → Option (RV × Store)} (h : ∀ e s, OLe (f e s) (f' e s)) (e : Option IE) (st : Store) : OLe (optI f e st) (optI f' e st) := by
  cases e with
  | none => exact .refl _
  | some e => exact .bind (h e st) fun _ => .refl _
theorem andL_le {f f' : IE → Store → Option (RV × Store)} (h : ∀ e s, OLe (f e s) (f' e s)) : ∀ (es : List IE) (st : Store), OLe (andL f es st) (andL f' es st)
  | [], st => .refl _
  | [e], st => h e st
  | e :: e2 :: es, st => .bind (h e st) fun ⟨r, st1⟩ => by
    dsimp only
    split
    · exact andL_le h (e2 :: es) _
    · exact .refl _
    · exact .refl _
theorem orL_le {f f' : IE → Store → Option (RV × Store)} (h : ∀ e s, OLe (f e s) (f' e s)) : ∀ (es : List IE) (st : Store), OLe (orL f es st) (orL f' es st)
  | [], st => .refl _
  | [e], st => h e st
  | e :: e2 :: es, st => .bind (h e st) fun ⟨r, st1⟩ => by
    dsimp only
    split
    · exact .refl _
    · exact orL_le h (e2 :: es) _
    · exact .refl _
theorem andT_le {f f' : IE → Store → Option (Bool × Store)} (h : ∀ e s, OLe (f e s) (f' e s)) : ∀ (es : List IE) (st : Store), OLe (andT f es st) (andT f' es st)
  | [], st => .refl _
  | [e], st => h e st
  | e :: e2 :: es, st => .bind (h e st) fun ⟨r, st1⟩ => by
    cases r
    · exact .refl _
    · exact andT_le h (e2 :: es) _
theorem orT_le {f f' : IE → Store → Option (Bool × Store)} (h : ∀ e s, OLe (f e s) (f' e s)) : ∀ (es : List IE) (st : Store), OLe (orT f es st) (orT f' es st)
  | [], st => .refl _
  | [e], st => h e st
  | e :: e2 :: es, st => .bind (h e st) fun ⟨r, st1⟩ => by
    cases r
    · exact orT_le h (e2 :: es) _
    · exact .refl _
theorem iterOf_le {f f' : IE → Store → Option (RV × Store)} (h : ∀ e s, OLe (f e s) (f' e s)) (ik : Ik) (it : List IE) (st : Store) : OLe (iterOf f ik it st) (iterOf f' ik it st) := .bind (evL_le h it st) fun _ => .refl _
theorem runSs_le {f f' : IS → Env → Store → Option (Out × Store)} (h : ∀ s e st, OLe (f s e st) (f' s e st)) : ∀ (ss : List IS) (env : Env) (st : Store), OLe (runSs f ss env st) (runSs f' ss env st)
  | [], env, st => .refl _
  | s :: ss, env, st => .bind (h s env st) fun ⟨o, st1⟩ => by
    cases o with
    | next env1 => exact runSs_le h ss env1 st1
    | _ => exact .refl _
theorem runIfs_le {f f' : IE → Store → Option (Bool × Store)} (h : ∀ e s, OLe (f e s) (f' e s)) : ∀ (es : List IE) (st : Store), OLe (runIfs f es st) (runIfs f' es st)
  | [], st => .refl _
  | e :: es, st => .bind (h e st) fun ⟨r, st1⟩ => by
    cases r
    · exact .refl _
    · exact runIfs_le h es st1
theorem loopC_le {V V' : IE → Env → Store → Option (RV × Store)} {T T' : IE → Env → Store → Option (Bool × Store)} (hV : ∀ e env s, OLe (V e env s) (V' e env s)) (hT : ∀ e env s, OLe (T e env s) (T' e env s)) {elt : IE} {tg : Tg} {ifs : List IE} {own : List Nat} {env : Env} {src : Src} :
    ∀ (n m i : Nat) (acc : List PV) (st : Store), n ≤ m → OLe (loopC V T elt tg ifs own env src n i acc st) (loopC V' T' elt tg ifs own env src m i acc st)
  | 0, m, i, acc, st, _ => .none
  | n + 1, 0, i, acc, st, h => absurd h (by omega)
  | n + 1, m + 1, i, acc, st, h => .bind (.refl (src.at st i)) fun o => by
    cases o with
    | none => exact .refl _
    | some x =>
      refine .bind (.refl (setTg (wipeE env own) tg x)) fun env1 => .bind (runIfs_le (fun t s => hT t env1 s) ifs st) fun ⟨b, st1⟩ => ?_
      cases b with
      | false => exact loopC_le hV hT n m (i + 1) acc st1 (by omega)
      | true =>
        refine .bind (evE_le (fun e s => hV e env1 s) elt st1) fun ⟨v, st2⟩ => ?_
        dsimp only
        cases decide (acc.length < lim) with
        | true => exact loopC_le hV hT n m (i + 1) (acc ++ [v]) st2 (by omega)
        | false => exact .refl _
theorem loopF_le {S S' : IS → Env → Store → Option (Out × Store)} (hS : ∀ s env st, OLe (S s env st) (S' s env st)) {tg : Tg} {b : List IS} {src : Src} :
    ∀ (n m i : Nat) (env : Env) (st : Store), n ≤ m → OLe (loopF S tg b src n i env st) (loopF S' tg b src m i env st)
  | 0, m, i, env, st, _ => .none
  | n + 1, 0, i, env, st, h => absurd h (by omega)
  | n + 1, m + 1, i, env, st, h => .bind (.refl (src.at st i)) fun o => by
    cases o with
    | none => exact .refl _
    | some x =>
      refine .bind (.refl (setTg env tg x)) fun env1 => .bind (runSs_le hS b env1 st) fun ⟨o, st1⟩ => ?_
      cases o with
      | next env2 => exact loopF_le hS n m (i + 1) env2 st1 (by omega)
      | cont env2 => exact loopF_le hS n m (i + 1) env2 st1 (by omega)
      | brk env2 => exact .refl _
      | ret v => exact .refl _
theorem loopW_le {T T' : IE → Env → Store → Option (Bool × Store)} {S S' : IS → Env → Store → Option (Out × Store)} (hT : ∀ e env s, OLe (T e env s) (T' e env s)) (hS : ∀ s env st, OLe (S s env st) (S' s env st)) {t : IE} {b : List IS} :
    ∀ (n m : Nat) (env : Env) (st : Store), n ≤ m → OLe (loopW T S t b n env st) (loopW T' S' t b m env st)
  | 0, m, env, st, _ => .none
  | n + 1, 0, env, st, h => absurd h (by omega)
  | n + 1, m + 1, env, st, h => .bind (hT t env st) fun ⟨c, st1⟩ => by
    cases c with
    | false => exact .refl _
    | true =>
      refine .bind (runSs_le hS b env st1) fun ⟨o, st2⟩ => ?_
      cases o with
      | next env2 => exact loopW_le hT hS n m env2 st2 (by omega)
      | cont env2 => exact loopW_le hT hS n m env2 st2 (by omega)
      | brk env2 => exact .refl _
      | ret v => exact .refl _
structure RLe (R R' : Rec) : Prop where
  V : ∀ d d' e env st, d ≤ d' → OLe (R.V d e env st) (R'.V d' e env st)
  T : ∀ d d' e env st, d ≤ d' → OLe (R.T d e env st) (R'.T d' e env st)
  S : ∀ d d' e env st, d ≤ d' → OLe (R.S d e env st) (R'.S d' e env st)
  C : ∀ d d' f vs st, d ≤ d' → OLe (R.C d f vs st) (R'.C d' f vs st)
section
variable {R R' : Rec} {n m d d' : Nat}
theorem stepV_le (h : RLe R R') (hn : n ≤ m) (hd : d ≤ d') (e : IE) (env : Env) (st : Store) : OLe (stepV n R d e env st) (stepV m R' d' e env st) := by
  have hV : ∀ e s, OLe (R.V d e env s) (R'.V d' e env s) := fun e s => h.V d d' e env s hd
  have hT : ∀ e s, OLe (R.T d e env s) (R'.T d' e env s) := fun e s => h.T d d' e env s hd
  have hL : ∀ es s, OLe (evL (evE fun e s => R.V d e env s) es s) (evL (evE fun e s => R'.V d' e env s) es s) := evL_le (evE_le hV)
  cases e with
  | bin op a b => exact .bind (hV a st) fun _ => .bind (hV b _) fun _ => .refl _
  | neg a => exact .bind (hV a st) fun _ => .refl _
  | not a => exact .bind (hV a st) fun _ => .refl _
  | and es => exact andL_le hV es st
  | or es => exact orL_le hV es st
  | cmp op a b => exact .bind (hV a st) fun _ => .bind (hV b _) fun _ => .refl _
  | chain o1 o2 a b c =>
    refine .bind (hV a st) fun _ => .bind (hV b _) fun _ => .bind (.refl _) fun r => ?_
    cases r
    · exact .refl _
    · exact .bind (hV c _) fun _ => .refl _
  | ife t a b =>
    refine .bind (hT t st) fun ⟨c, _⟩ => ?_
    cases c
    · exact hV b _
    · exact hV a _
  | tup es => exact .bind (hL es st) fun _ => .refl _
  | lst es => exact .bind (hL es st) fun _ => .refl _
  | dct ks es => exact .map (hL es st)
  | idx a b => exact .bind (hV a st) fun _ => .bind (hV b _) fun _ => .refl _
  | slice a lo hi => exact .bind (hV a st) fun _ => .bind (optI_le hV lo _) fun _ => .bind (optI_le hV hi _) fun _ => .refl _
  | rev a => exact .bind (hV a st) fun _ => .refl _
  | call f args => exact .bind (hL args st) fun _ => .map (h.C d d' _ _ _ hd)
  | callK f args kws pm => exact .bind (hL args st) fun _ => .bind (hL kws _) fun _ => .bind (.refl _) fun _ => .map (h.C d d' _ _ _ hd)
  | bi b args => exact .bind (evL_le hV args st) fun _ => .refl _
  | comp elt tg ik it ifs own => exact .bind (iterOf_le hV ik it st) fun _ => .map (loopC_le (fun e env s => h.V d d' e env s hd) (fun e env s => h.T d d' e env s hd) n m 0 [] _ hn)
  | pop o => exact .bind (hV o st) fun _ => .refl _
  | append o e => exact .bind (hV o st) fun _ => .bind (evE_le hV e _) fun _ => .refl _
  | _ => exact .refl _
theorem stepT_le (h : RLe R R') (hn : n ≤ m) (hd : d ≤ d') (e : IE) (env : Env) (st : Store) : OLe (stepT n R d e env st) (stepT m R' d' e env st) := by
  have hV : ∀ e s, OLe (R.V d e env s) (R'.V d' e env s) := fun e s => h.V d d' e env s hd
  have hT : ∀ e s, OLe (R.T d e env s) (R'.T d' e env s) := fun e s => h.T d d' e env s hd
  cases e with
  | tnot a => exact .map (hT a st)
  | tand es => exact andT_le hT es st
  | tor es => exact orT_le hT es st
  | tval e => exact .bind (hV e st) fun _ => .refl _
  | _ => exact .refl _
theorem stepS_le (h : RLe R R') (hn : n ≤ m) (hd : d ≤ d') (s : IS) (env : Env) (st : Store) : OLe (stepS n R d s env st) (stepS m R' d' s env st) := by
  have hV : ∀ e s, OLe (R.V d e env s) (R'.V d' e env s) := fun e s => h.V d d' e env s hd
  have hT : ∀ e s, OLe (R.T d e env s) (R'.T d' e env s) := fun e s => h.T d d' e env s hd
  have hL : ∀ es s, OLe (evL (evE fun e s => R.V d e env s) es s) (evL (evE fun e s => R'.V d' e env s) es s) := evL_le (evE_le hV)
  have hSs : ∀ ss env s, OLe (runSs (R.S d) ss env s) (runSs (R'.S d') ss env s) := runSs_le fun s e st => h.S d d' s e st hd
  cases s with
  | asg i e => exact .map (evE_le hV e st)
  | asgT is e => exact .bind (hV e st) fun _ => .refl _
  | par is es => exact .bind (hL es st) fun _ => .refl _
  | put o k e => exact .bind (evE_le hV e st) fun _ => .bind (hV o _) fun _ => .refl _
  | ifs t a b =>
    refine .bind (hT t st) fun ⟨c, _⟩ => ?_
    cases c
    · exact hSs b env _
    · exact hSs a env _
  | whl t b => exact loopW_le (fun e env s => h.T d d' e env s hd) (fun s e st => h.S d d' s e st hd) n m env st hn
  | forS tg ik it b => exact .bind (iterOf_le hV ik it st) fun _ => loopF_le (fun s e st => h.S d d' s e st hd) n m 0 env _ hn
  | ret e => exact .map (evE_le hV e st)
  | expr e => exact .map (hV e st)
  | _ => exact .refl _
theorem stepC_le {G : List Fn} (h : RLe R R') (hd : d ≤ d') (f : Nat) (vs : List PV) (st : Store) : OLe (stepC G R d f vs st) (stepC G R' d' f vs st) := by
  cases d with
  | zero => exact .none
  | succ d =>
    cases d' with
    | zero => exact absurd hd (by omega)
    | succ d' =>
      unfold stepC
      dsimp only
      cases G[f]? with
      | none => exact .refl _
      | some fn =>
        dsimp only
        cases decide (vs.length = fn.np) with
        | false => exact .refl _
        | true => exact .bind (runSs_le (fun s e st => h.S d d' s e st (by omega)) _ _ _) fun _ => .refl _
theorem run_le (G : List Fn) : ∀ n m : Nat, n ≤ m → RLe (run G n) (run G m)
  | 0, m, _ => ⟨fun _ _ _ _ _ _ => .none, fun _ _ _ _ _ _ => .none, fun _ _ _ _ _ _ => .none, fun _ _ _ _ _ _ => .none⟩
  | n + 1, 0, h => absurd h (by omega)
  | n + 1, m + 1, h =>
    have ih := run_le G n m (by omega)
    ⟨fun _ _ e env st hd => stepV_le ih (by omega) hd e env st, fun _ _ e env st hd => stepT_le ih (by omega) hd e env st, fun _ _ s env st hd => stepS_le ih (by omega) hd s env st, fun _ _ f vs st hd => stepC_le ih hd f vs st⟩
end
end MI
end
section
set_option Elab.async false
set_option linter.all false
set_option maxRecDepth 100000
set_option maxHeartbeats 4000000
/-! MI16: what follows a run, with no fuel in sight: rules backwards, one for each form. -/
namespace MI
open PySem PySem.Spec PyProof.Rows L2
/-- what a family of answers comes to -/
def Lim {α : Type} (o : Nat → Option (α × Store)) (Q : α → Store → Prop) : Prop := ∃ n a s, o n = some (a, s) ∧ Q a s
def Mon {α : Type} (o : Nat → Option α) : Prop := ∀ n m, n ≤ m → OLe (o n) (o m)
theorem Lim.imp {α : Type} {o : Nat → Option (α × Store)} {Q Q' : α → Store → Prop} (h : Lim o Q) (w : ∀ a s, Q a s → Q' a s) : Lim o Q' := by
  obtain ⟨n, a, s, h1, h2⟩ := h
  exact ⟨n, a, s, h1, w _ _ h2⟩
theorem Lim.bind {α β : Type} {o : Nat → Option (α × Store)} {f : Nat → α × Store → Option (β × Store)} {Q : β → Store → Prop} (ho : Mon o) (hf : ∀ p, Mon fun n => f n p) (h : Lim o fun a s => Lim (fun n => f n (a, s)) Q) : Lim (fun n => (o n).bind (f n)) Q := by
  obtain ⟨n, a, s, h1, m, b, t, h2, q⟩ := h
  refine ⟨max n m, b, t, ?_, q⟩
  show (o (max n m)).bind _ = _
  rw [ho n _ (Nat.le_max_left ..) _ h1]
  exact hf (a, s) m _ (Nat.le_max_right ..) _ h2
theorem Lim.map {α β : Type} {o : Nat → Option (α × Store)} {f : α × Store → β × Store} {Q : β → Store → Prop} (h : Lim o fun a s => Q (f (a, s)).1 (f (a, s)).2) : Lim (fun n => (o n).map f) Q := by
  obtain ⟨n, a, s, h1, q⟩ := h
  refine ⟨n, _, _, ?_, q⟩
  show (o n).map f = _
  rw [h1]
  rfl
theorem Lim.const {α : Type} {o : Option (α × Store)} {Q : α → Store → Prop} (a : α) (s : Store) (h : o = some (a, s)) (q : Q a s) : Lim (fun _ => o) Q := ⟨0, a, s, h, q⟩
theorem Mon.const {α : Type} (o : Option α) : Mon fun _ => o := fun _ _ _ => .refl _
theorem Mon.bind {α β : Type} {o : Nat → Option α} {f : Nat → α → Option β} (ho : Mon o) (hf : ∀ p, Mon fun n => f n p) : Mon fun n => (o n).bind (f n) := fun n m h => .bind (ho n m h) fun a => hf a n m h
theorem Mon.map {α β : Type} {o : Nat → Option α} {f : α → β} (ho : Mon o) : Mon fun n => (o n).map f := fun n m h => .map (ho n m h)
section
variable (G : List Fn) (d : Nat)
def GV (e : IE) (env : Env) (st : Store) (Q : RV → Store → Prop) : Prop := Lim (fun n => (run G n).V d e env st) Q
def GE (e : IE) (env : Env) (st : Store) (Q : PV → Store → Prop) : Prop := Lim (fun n => evE (fun e s => (run G n).V d e env s) e st) Q
def GL (es : List IE) (env : Env) (st : Store) (Q : List PV → Store → Prop) : Prop := Lim (fun n => evL (evE fun e s => (run G n).V d e env s) es st) Q
def GR (es : List IE) (env : Env) (st : Store) (Q : List RV → Store → Prop) : Prop := Lim (fun n => evL (fun e s => (run G n).V d e env s) es st) Q
def GT (e : IE) (env : Env) (st : Store) (Q : Bool → Store → Prop) : Prop := Lim (fun n => (run G n).T d e env st) Q
def GS (s : IS) (env : Env) (st : Store) (Q : Out → Store → Prop) : Prop := Lim (fun n => (run G n).S d s env st) Q
def GSs (ss : List IS) (env : Env) (st : Store) (Q : Out → Store → Prop) : Prop := Lim (fun n => runSs ((run G n).S d) ss env st) Q
def GC (f : Nat) (vs : List PV) (st : Store) (Q : PV → Store → Prop) : Prop := Lim (fun n => (run G n).C d f vs st) Q
def GO (e : Option IE) (env : Env) (st : Store) (Q : Option Int → Store → Prop) : Prop := Lim (fun n => optI (fun e s => (run G n).V d e env s) e st) Q
def GI (ik : Ik) (it : List IE) (env : Env) (st : Store) (Q : Src → Store → Prop) : Prop := Lim (fun n => iterOf (fun e s => (run G n).V d e env s) ik it st) Q
def GAnd (es : List IE) (env : Env) (st : Store) (Q : RV → Store → Prop) : Prop := Lim (fun n => andL (fun e s => (run G n).V d e env s) es st) Q
def GOr (es : List IE) (env : Env) (st : Store) (Q : RV → Store → Prop) : Prop := Lim (fun n => orL (fun e s => (run G n).V d e env s) es st) Q
def GAndT (es : List IE) (env : Env) (st : Store) (Q : Bool → Store → Prop) : Prop := Lim (fun n => andT (fun e s => (run G n).T d e env s) es st) Q
def GOrT (es : List IE) (env : Env) (st : Store) (Q : Bool → Store → Prop) : Prop := Lim (fun n => orT (fun e s => (run G n).T d e env s) es st) Q
def GIfs (es : List IE) (env : Env) (st : Store) (Q : Bool → Store → Prop) : Prop := Lim (fun n => runIfs (fun e s => (run G n).T d e env s) es st) Q
def GLc (elt : IE) (tg : Tg) (ifs : List IE) (own : List Nat) (env : Env) (src : Src) (i : Nat) (acc : List PV) (st : Store) (Q : List PV → Store → Prop) : Prop := Lim (fun n => loopC ((run G n).V d) ((run G n).T d) elt tg ifs own env src n i acc st) Q
def GLf (tg : Tg) (b : List IS) (src : Src) (i : Nat) (env : Env) (st : Store) (Q : Out → Store → Prop) : Prop := Lim (fun n => loopF ((run G n).S d) tg b src n i env st) Q
def GLw (t : IE) (b : List IS) (env : Env) (st : Store) (Q : Out → Store → Prop) : Prop := Lim (fun n => loopW ((run G n).T d) ((run G n).S d) t b n env st) Q
end
/-- a value is stored: a new list gets its cell -/
def GA (rv : RV) (st : Store) (Q : PV → Store → Prop) : Prop := Q (allocR (rv, st)).1 (allocR (rv, st)).2
def GB (op : Operator) (x y : RV) (st : Store) (Q : RV → Store → Prop) : Prop := ∃ r, binop op x y st = some r ∧ Q r st
def GM (op : CmpOp) (x y : RV) (st : Store) (Q : Bool → Prop) : Prop := ∃ r, cmpop op x y st = some r ∧ Q r
def GBi (b : Bi) (xs : List RV) (st : Store) (Q : RV → Store → Prop) : Prop := ∃ r, biCall b xs st = some r ∧ Q r st
def GX (x y : RV) (st : Store) (Q : PV → Store → Prop) : Prop := ∃ r, getIx x y st = some r ∧ Q r st
def GTr (x : RV) (st : Store) (Q : Bool → Store → Prop) : Prop := ∃ b, truth st x = some b ∧ Q b st
/-- by what it is -/
def GIf (b : Bool) (P Q : Prop) : Prop := (b = true → P) ∧ (b = false → Q)
section
variable {G : List Fn} {d : Nat} {env : Env} {st : Store}
theorem monV {G : List Fn} {d : Nat} {e : IE} {env : Env} {st : Store} : Mon fun n => (run G n).V d e env st := fun n m h => (run_le G n m h).V d d e env st (Nat.le_refl _)
theorem monT {G : List Fn} {d : Nat} {e : IE} {env : Env} {st : Store} : Mon fun n => (run G n).T d e env st := fun n m h => (run_le G n m h).T d d e env st (Nat.le_refl _)
theorem monS {G : List Fn} {d : Nat} {s : IS} {env : Env} {st : Store} : Mon fun n => (run G n).S d s env st := fun n m h => (run_le G n m h).S d d s env st (Nat.le_refl _)
theorem monC {G : List Fn} {d : Nat} {f : Nat} {vs : List PV} {st : Store} : Mon fun n => (run G n).C d f vs st := fun n m h => (run_le G n m h).C d d f vs st (Nat.le_refl _)
theorem monL {G : List Fn} {d : Nat} {es : List IE} {env : Env} {st : Store} : Mon fun n => evL (evE fun e s => (run G n).V d e env s) es st := fun n m h => evL_le (evE_le fun e s => monV n m h) es st
theorem monR {G : List Fn} {d : Nat} {es : List IE} {env : Env} {st : Store} : Mon fun n => evL (fun e s => (run G n).V d e env s) es st := fun n m h => evL_le (fun e s => monV n m h) es st
theorem monE {G : List Fn} {d : Nat} {e : IE} {env : Env} {st : Store} : Mon fun n => evE (fun e s => (run G n).V d e env s) e st := fun n m h => evE_le (fun e s => monV n m h) e st
theorem monO {G : List Fn} {d : Nat} {e : Option IE} {env : Env} {st : Store} : Mon fun n => optI (fun e s => (run G n).V d e env s) e st := fun n m h => optI_le (fun e s => monV n m h) e st
theorem monI {G : List Fn} {d : Nat} {ik : Ik} {it : List IE} {env : Env} {st : Store} : Mon fun n => iterOf (fun e s => (run G n).V d e env s) ik it st := fun n m h => iterOf_le (fun e s => monV n m h) ik it st
theorem monSs {G : List Fn} {d : Nat} {ss : List IS} {env : Env} {st : Store} : Mon fun n => runSs ((run G n).S d) ss env st := fun n m h => runSs_le (fun s e st => monS n m h) ss env st
theorem monIfs {G : List Fn} {d : Nat} {es : List IE} {env : Env} {st : Store} : Mon fun n => runIfs (fun e s => (run G n).T d e env s) es st := fun n m h => runIfs_le (fun e s => monT n m h) es st
theorem monAnd {G : List Fn} {d : Nat} {es : List IE} {env : Env} {st : Store} : Mon fun n => andL (fun e s => (run G n).V d e env s) es st := fun n m h => andL_le (fun e s => monV n m h) es st
theorem monOr {G : List Fn} {d : Nat} {es : List IE} {env : Env} {st : Store} : Mon fun n => orL (fun e s => (run G n).V d e env s) es st := fun n m h => orL_le (fun e s => monV n m h) es st
theorem monAndT {G : List Fn} {d : Nat} {es : List IE} {env : Env} {st : Store} : Mon fun n => andT (fun e s => (run G n).T d e env s) es st := fun n m h => andT_le (fun e s => monT n m h) es st
theorem monOrT {G : List Fn} {d : Nat} {es : List IE} {env : Env} {st : Store} : Mon fun n => orT (fun e s => (run G n).T d e env s) es st := fun n m h => orT_le (fun e s => monT n m h) es st
theorem monLc {G : List Fn} {d : Nat} {elt : IE} {tg : Tg} {ifs : List IE} {own : List Nat} {env : Env} {src : Src} {i : Nat} {acc : List PV} {st : Store} : Mon fun n => loopC ((run G n).V d) ((run G n).T d) elt tg ifs own env src n i acc st := fun n m h => loopC_le (fun e env s => monV n m h) (fun e env s => monT n m h) n m i acc st h
theorem monLf {G : List Fn} {d : Nat} {tg : Tg} {b : List IS} {src : Src} {i : Nat} {env : Env} {st : Store} : Mon fun n => loopF ((run G n).S d) tg b src n i env st := fun n m h => loopF_le (fun s env st => monS n m h) n m i env st h
theorem monLw {G : List Fn} {d : Nat} {t : IE} {b : List IS} {env : Env} {st : Store} : Mon fun n => loopW ((run G n).T d) ((run G n).S d) t b n env st := fun n m h => loopW_le (fun e env s => monT n m h) (fun s env st => monS n m h) n m env st h
/-- one step less -/
theorem stV {e : IE} {Q : RV → Store → Prop} (h : Lim (fun n => stepV n (run G n) d e env st) Q) : GV G d e env st Q := by
  obtain ⟨n, a, s, h1, q⟩ := h
  exact ⟨n + 1, a, s, h1, q⟩
theorem stT {e : IE} {Q : Bool → Store → Prop} (h : Lim (fun n => stepT n (run G n) d e env st) Q) : GT G d e env st Q := by
  obtain ⟨n, a, s, h1, q⟩ := h
  exact ⟨n + 1, a, s, h1, q⟩
theorem stS {e : IS} {Q : Out → Store → Prop} (h : Lim (fun n => stepS n (run G n) d e env st) Q) : GS G d e env st Q := by
  obtain ⟨n, a, s, h1, q⟩ := h
  exact ⟨n + 1, a, s, h1, q⟩
/-! ### expressions -/
section
variable {Q : RV → Store → Prop}
theorem gv_var {i : Nat} {v : PV} (h : env[i]? = some (some v)) (q : Q (.val v) st) : GV G d (.var i) env st Q := by
  have e : (match env[i]? with
    | some (some v) => some (RV.val v, st)
    | _ => none) = some (RV.val v, st) := by rw [h]
  exact stV (.const _ _ e q)
theorem gv_lit {l : Lit} (q : Q (.val (litV l)) st) : GV G d (.lit l) env st Q := stV (.const _ _ rfl q)
theorem gv_int {i : Int} (q : Q (.val (.int i)) st) : GV G d (.lit (.int i)) env st Q := gv_lit q
theorem gv_bl {i : Bool} (q : Q (.val (.bl i)) st) : GV G d (.lit (.bl i)) env st Q := gv_lit q
theorem gv_str {i : Str} (q : Q (.val (.str i)) st) : GV G d (.lit (.str i)) env st Q := gv_lit q
theorem gv_non (q : Q (.val .non) st) : GV G d (.lit .non) env st Q := gv_lit q
theorem gv_ty {n : String} (q : Q (.val (.ty n)) st) : GV G d (.ty n) env st Q := stV (.const _ _ rfl q)
theorem gv_glob {z : Int} (q : Q (.val (.int z)) st) : GV G d (.glob z) env st Q := stV (.const _ _ rfl q)
theorem gv_bin {op : Operator} {a b : IE} (h : GV G d a env st fun x st1 => GV G d b env st1 fun y st2 => GB op x y st2 Q) : GV G d (.bin op a b) env st Q :=
  stV (.bind (monV) (fun p => .bind (monV) fun _ => .const _) (h.imp fun x s1 h => .bind (monV) (fun _ => .const _) (h.imp fun y s2 ⟨r, h1, q⟩ => .const _ _ (by show (binop op x y s2).map _ = _; rw [h1]; rfl) q)))
theorem gv_neg {a : IE} (h : GV G d a env st fun x st1 => ∃ i, x = .val (.int i) ∧ Q (.val (.int (-i))) st1) : GV G d (.neg a) env st Q :=
  stV (.bind (monV) (fun p => .const _) (h.imp fun x s1 ⟨i, e, q⟩ => by subst e; exact .const _ _ rfl q))
theorem gv_not {a : IE} (h : GV G d a env st fun x st1 => ∃ i, x = .val (.bl i) ∧ Q (.val (.bl (!i))) st1) : GV G d (.not a) env st Q :=
  stV (.bind (monV) (fun p => .const _) (h.imp fun x s1 ⟨i, e, q⟩ => by subst e; exact .const _ _ rfl q))
theorem gv_and {es : List IE} (h : GAnd G d es env st Q) : GV G d (.and es) env st Q := stV h
theorem gv_or {es : List IE} (h : GOr G d es env st Q) : GV G d (.or es) env st Q := stV h
theorem gand_one {e : IE} (h : GV G d e env st Q) : GAnd G d [e] env st Q := h
theorem gand_cons {e e2 : IE} {es : List IE} (h : GV G d e env st fun x st1 => ∃ b, x = .val (.bl b) ∧ GIf b (GAnd G d (e2 :: es) env st1 Q) (Q (.val (.bl false)) st1)) : GAnd G d (e :: e2 :: es) env st Q :=
  .bind (monV) (fun ⟨r, s1⟩ => by
    dsimp only
    split
    · exact monAnd
    · exact .const _
    · exact .const _) (h.imp fun x s1 ⟨b, e, q⟩ => by
    subst e
    cases b with
    | true => exact q.1 rfl
    | false => exact .const _ _ rfl (q.2 rfl))
theorem gor_one {e : IE} (h : GV G d e env st Q) : GOr G d [e] env st Q := h
theorem gor_cons {e e2 : IE} {es : List IE} (h : GV G d e env st fun x st1 => ∃ b, x = .val (.bl b) ∧ GIf b (Q (.val (.bl true)) st1) (GOr G d (e2 :: es) env st1 Q)) : GOr G d (e :: e2 :: es) env st Q :=
  .bind (monV) (fun ⟨r, s1⟩ => by
    dsimp only
    split
    · exact .const _
    · exact monOr
    · exact .const _) (h.imp fun x s1 ⟨b, e, q⟩ => by
    subst e
    cases b with
    | true => exact .const _ _ rfl (q.1 rfl)
    | false => exact q.2 rfl)
theorem gv_cmp {op : CmpOp} {a b : IE} (h : GV G d a env st fun x st1 => GV G d b env st1 fun y st2 => GM op x y st2 fun r => Q (.val (.bl r)) st2) : GV G d (.cmp op a b) env st Q :=
  stV (.bind (monV) (fun p => .bind (monV) fun _ => .const _) (h.imp fun x s1 h => .bind (monV) (fun _ => .const _) (h.imp fun y s2 ⟨r, h1, q⟩ => .const _ _ (by show (cmpop op x y s2).map _ = _; rw [h1]; rfl) q)))
theorem gv_chain {o1 o2 : CmpOp} {a b c : IE} (h : GV G d a env st fun x st1 => GV G d b env st1 fun y st2 => GM o1 x y st2 fun r => GIf r (GV G d c env st2 fun z st3 => GM o2 y z st3 fun r => Q (.val (.bl r)) st3) (Q (.val (.bl false)) st2)) : GV G d (.chain o1 o2 a b c) env st Q := by
  have hm : ∀ (y : RV) (s2 : Store) (r : Bool), Mon fun n => (match r with
      | true => ((run G n).V d c env s2).bind fun (z, st3) => (cmpop o2 y z st3).map fun r => (RV.val (.bl r), st3)
      | false => some (RV.val (.bl false), s2)) := fun y s2 r => by
    cases r
    · exact .const _
    · exact .bind (monV) fun _ => .const _
  refine stV (.bind (monV) (fun p => .bind (monV) fun p2 => .bind (.const _) fun r => hm _ _ r) (h.imp fun x s1 h => .bind (monV) (fun p2 => .bind (.const _) fun r => hm _ _ r) (h.imp fun y s2 ⟨r, h1, q⟩ => ?_)))
  dsimp only
  rw [h1]
  cases r with
  | false => exact .const _ _ rfl (q.2 rfl)
  | true => exact .bind (monV) (fun _ => .const _) ((q.1 rfl).imp fun z s3 ⟨r, h2, q⟩ => .const _ _ (by show (cmpop o2 y z s3).map _ = _; rw [h2]; rfl) q)
theorem gv_ife {t a b : IE} (h : GT G d t env st fun c st1 => GIf c (GV G d a env st1 Q) (GV G d b env st1 Q)) : GV G d (.ife t a b) env st Q :=
  stV (.bind (monT) (fun ⟨c, s1⟩ => by
    cases c
    · exact monV
    · exact monV) (h.imp fun c s1 q => by
    cases c with
    | true => exact q.1 rfl
    | false => exact q.2 rfl))
theorem gv_tup {es : List IE} (h : GL G d es env st fun vs st1 => vs.length ≤ lim ∧ Q (.val (.tup vs)) st1) : GV G d (.tup es) env st Q :=
  stV (.bind (monL) (fun _ => .const _) (h.imp fun vs s1 ⟨h1, q⟩ => .const _ _ (by show (bif decide (vs.length ≤ lim) then _ else _) = _; rw [decide_eq_true h1]; rfl) q))
theorem gv_lst {es : List IE} (h : GL G d es env st fun vs st1 => vs.length ≤ lim ∧ Q (.new vs) st1) : GV G d (.lst es) env st Q :=
  stV (.bind (monL) (fun _ => .const _) (h.imp fun vs s1 ⟨h1, q⟩ => .const _ _ (by show (bif decide (vs.length ≤ lim) then _ else _) = _; rw [decide_eq_true h1]; rfl) q))
theorem gv_dct {ks : List Str} {es : List IE} (h : GL G d es env st fun vs st1 => Q (.val (.ref st1.length)) (st1 ++ [.dct ((ks.zip vs).foldl (fun acc kv => dctPut acc (.inr kv.1) kv.2) [])])) : GV G d (.dct ks es) env st Q :=
  stV (.map h)
theorem gv_idx {a b : IE} (h : GV G d a env st fun x st1 => GV G d b env st1 fun y st2 => GX x y st2 fun r st3 => Q (.val r) st3) : GV G d (.idx a b) env st Q :=
  stV (.bind (monV) (fun p => .bind (monV) fun _ => .const _) (h.imp fun x s1 h => .bind (monV) (fun _ => .const _) (h.imp fun y s2 ⟨r, h1, q⟩ => .const _ _ (by show (getIx x y s2).map _ = _; rw [h1]; rfl) q)))
theorem go_none {Q : Option Int → Store → Prop} (q : Q none st) : GO G d none env st Q := .const _ _ rfl q
theorem go_some {e : IE} {Q : Option Int → Store → Prop} (h : GV G d e env st fun x st1 => ∃ i, x = .val (.int i) ∧ Q (some i) st1) : GO G d (some e) env st Q :=
  .bind (monV) (fun _ => .const _) (h.imp fun x s1 ⟨i, e, q⟩ => by subst e; exact .const _ _ rfl q)
theorem gv_slice {a : IE} {lo hi : Option IE} (h : GV G d a env st fun x st1 => GO G d lo env st1 fun l st2 => GO G d hi env st2 fun u st3 => ∃ r, getSl x l u st3 = some r ∧ Q r st3) : GV G d (.slice a lo hi) env st Q :=
  stV (.bind (monV) (fun p => .bind (monO) fun _ => .bind (monO) fun _ => .const _) (h.imp fun x s1 h => .bind (monO) (fun _ => .bind (monO) fun _ => .const _) (h.imp fun l s2 h => .bind (monO) (fun _ => .const _) (h.imp fun u s3 ⟨r, h1, q⟩ => .const _ _ (by show (getSl x l u s3).map _ = _; rw [h1]; rfl) q))))
theorem gv_rev {a : IE} (h : GV G d a env st fun x st1 => ∃ xs, itemsOf st1 x = some (true, xs) ∧ Q (.new xs.reverse) st1) : GV G d (.rev a) env st Q :=
  stV (.bind (monV) (fun p => .const _) (h.imp fun x s1 ⟨xs, e, q⟩ => .const _ _ (by show (itemsOf s1 x).bind _ = _; rw [e]; rfl) q))
theorem gl_nil {Q : List PV → Store → Prop} (q : Q [] st) : GL G d [] env st Q := .const _ _ rfl q
theorem gl_cons {e : IE} {es : List IE} {Q : List PV → Store → Prop} (h : GE G d e env st fun v st1 => GL G d es env st1 fun vs st2 => Q (v :: vs) st2) : GL G d (e :: es) env st Q :=
  .bind (monE) (fun _ => .bind (monL) fun _ => .const _) (h.imp fun v s1 h => .bind (monL) (fun _ => .const _) (h.imp fun vs s2 q => .const _ _ rfl q))
theorem gr_nil {Q : List RV → Store → Prop} (q : Q [] st) : GR G d [] env st Q := .const _ _ rfl q
theorem gr_cons {e : IE} {es : List IE} {Q : List RV → Store → Prop} (h : GV G d e env st fun v st1 => GR G d es env st1 fun vs st2 => Q (v :: vs) st2) : GR G d (e :: es) env st Q :=
  .bind (monV) (fun _ => .bind (monR) fun _ => .const _) (h.imp fun v s1 h => .bind (monR) (fun _ => .const _) (h.imp fun vs s2 q => .const _ _ rfl q))
theorem ge_of {e : IE} {Q : PV → Store → Prop} (h : GV G d e env st fun rv st1 => GA rv st1 Q) : GE G d e env st Q := .map h
theorem ga_val {v : PV} {Q : PV → Store → Prop} (q : Q v st) : GA (.val v) st Q := q
theorem ga_new {xs : List PV} {Q : PV → Store → Prop} (q : Q (.ref st.length) (st ++ [.lst xs])) : GA (.new xs) st Q := q
theorem gv_call {f : Nat} {args : List IE} (h : GL G d args env st fun vs st1 => GC G d f vs st1 fun v st2 => Q (.val v) st2) : GV G d (.call f args) env st Q :=
  stV (.bind (monL) (fun _ => .map (monC)) (h.imp fun vs s1 h => .map h))
theorem gv_callK {f : Nat} {args kws : List IE} {pm : List Nat} (h : GL G d args env st fun vs st1 => GL G d kws env st1 fun ws st2 => ∃ us, permute (vs ++ ws) pm = some us ∧ GC G d f us st2 fun v st3 => Q (.val v) st3) : GV G d (.callK f args kws pm) env st Q :=
  stV (.bind (monL) (fun _ => .bind (monL) fun _ => .bind (.const _) fun _ => .map (monC)) (h.imp fun vs s1 h => .bind (monL) (fun _ => .bind (.const _) fun _ => .map (monC)) (h.imp fun ws s2 ⟨us, h1, q⟩ => by
    dsimp only
    rw [h1]
    exact .map q)))
theorem gv_bi {b : Bi} {args : List IE} (h : GR G d args env st fun xs st1 => GBi b xs st1 Q) : GV G d (.bi b args) env st Q :=
  stV (.bind (monR) (fun _ => .const _) (h.imp fun xs s1 ⟨r, h1, q⟩ => .const _ _ (by show (biCall b xs s1).map _ = _; rw [h1]; rfl) q))
theorem gi_of {ik : Ik} {it : List IE} {Q : Src → Store → Prop} (h : GR G d it env st fun xs st1 => ∃ s, ikSrc ik xs st1 = some s ∧ Q s st1) : GI G d ik it env st Q :=
  .bind (monR) (fun _ => .const _) (h.imp fun xs s1 ⟨s, h1, q⟩ => .const _ _ (by show (ikSrc ik xs s1).map _ = _; rw [h1]; rfl) q)
theorem gv_comp {elt : IE} {tg : Tg} {ik : Ik} {it ifs : List IE} {own : List Nat} (h : GI G d ik it env st fun src st1 => GLc G d elt tg ifs own env src 0 [] st1 fun xs st2 => Q (.new xs) st2) : GV G d (.comp elt tg ik it ifs own) env st Q :=
  stV (.bind (monI) (fun _ => .map (monLc)) (h.imp fun src s1 h => .map h))
theorem gv_pop {o : IE} (h : GV G d o env st fun x st1 => ∃ m xs v, x = .val (.ref m) ∧ st1[m]? = some (.lst xs) ∧ xs[xs.length - 1]? = some v ∧ Q (.val v) (st1.set m (.lst xs.dropLast))) : GV G d (.pop o) env st Q :=
  stV (.bind (monV) (fun _ => .const _) (h.imp fun x s1 ⟨m, xs, v, e, h1, h2, q⟩ => .const _ _ (by
    subst e
    dsimp only
    rw [h1]
    dsimp only
    rw [h2]
    rfl) q))
theorem gv_append {o e : IE} (h : GV G d o env st fun x st1 => GE G d e env st1 fun v st2 => ∃ m ys xs, x = .val (.ref m) ∧ st1[m]? = some (.lst ys) ∧ st2[m]? = some (.lst xs) ∧ xs.length < lim ∧ Q (.val .non) (st2.set m (.lst (xs ++ [v])))) : GV G d (.append o e) env st Q :=
  stV (.bind (monV) (fun _ => .bind (monE) fun _ => .const _) (h.imp fun x s1 h => .bind (monE) (fun _ => .const _) (h.imp fun v s2 ⟨m, ys, xs, e, h1, h2, h3, q⟩ => .const _ _ (by
    subst e
    dsimp only
    rw [h1, h2]
    dsimp only
    rw [decide_eq_true h3]
    rfl) q)))
end
/-! ### tests -/
section
variable {Q : Bool → Store → Prop}
theorem gt_not {a : IE} (h : GT G d a env st fun b st1 => Q (!b) st1) : GT G d (.tnot a) env st Q := stT (.map h)
theorem gt_and {es : List IE} (h : GAndT G d es env st Q) : GT G d (.tand es) env st Q := stT h
theorem gt_or {es : List IE} (h : GOrT G d es env st Q) : GT G d (.tor es) env st Q := stT h
theorem gandt_one {e : IE} (h : GT G d e env st Q) : GAndT G d [e] env st Q := h
theorem gort_one {e : IE} (h : GT G d e env st Q) : GOrT G d [e] env st Q := h
theorem gandt_cons {e e2 : IE} {es : List IE} (h : GT G d e env st fun b st1 => GIf b (GAndT G d (e2 :: es) env st1 Q) (Q false st1)) : GAndT G d (e :: e2 :: es) env st Q :=
  .bind (monT) (fun ⟨r, s1⟩ => by
    cases r
    · exact .const _
    · exact monAndT) (h.imp fun b s1 q => by
    cases b with
    | true => exact q.1 rfl
    | false => exact .const _ _ rfl (q.2 rfl))
theorem gort_cons {e e2 : IE} {es : List IE} (h : GT G d e env st fun b st1 => GIf b (Q true st1) (GOrT G d (e2 :: es) env st1 Q)) : GOrT G d (e :: e2 :: es) env st Q :=
  .bind (monT) (fun ⟨r, s1⟩ => by
    cases r
    · exact monOrT
    · exact .const _) (h.imp fun b s1 q => by
    cases b with
    | true => exact .const _ _ rfl (q.1 rfl)
    | false => exact q.2 rfl)
theorem gt_val {e : IE} (h : GV G d e env st fun x st1 => GTr x st1 Q) : GT G d (.tval e) env st Q :=
  stT (.bind (monV) (fun _ => .const _) (h.imp fun x s1 ⟨b, h1, q⟩ => .const _ _ (by show (truth s1 x).map _ = _; rw [h1]; rfl) q))
theorem gifs_nil (q : Q true st) : GIfs G d [] env st Q := .const _ _ rfl q
theorem gifs_cons {e : IE} {es : List IE} (h : GT G d e env st fun b st1 => GIf b (GIfs G d es env st1 Q) (Q false st1)) : GIfs G d (e :: es) env st Q :=
  .bind (monT) (fun ⟨r, s1⟩ => by
    cases r
    · exact .const _
    · exact monIfs) (h.imp fun b s1 q => by
    cases b with
    | true => exact q.1 rfl
    | false => exact .const _ _ rfl (q.2 rfl))
end
/-! ### statements -/
/-- behind a statement -/
def GN (G : List Fn) (d : Nat) (ss : List IS) (Q : Out → Store → Prop) (o : Out) (st : Store) : Prop := match o with
  | .next env => GSs G d ss env st Q
  | .ret v => Q (.ret v) st
  | .brk env => Q (.brk env) st
  | .cont env => Q (.cont env) st
section
variable {Q : Out → Store → Prop} {ss : List IS}
theorem gn_next (h : GSs G d ss env st Q) : GN G d ss Q (.next env) st := h
theorem gn_ret {v : PV} (h : Q (.ret v) st) : GN G d ss Q (.ret v) st := h
theorem gn_brk (h : Q (.brk env) st) : GN G d ss Q (.brk env) st := h
theorem gn_cont (h : Q (.cont env) st) : GN G d ss Q (.cont env) st := h
theorem gss_nil (q : Q (.next env) st) : GSs G d [] env st Q := .const _ _ rfl q
theorem gss_cons {s : IS} (h : GS G d s env st (GN G d ss Q)) : GSs G d (s :: ss) env st Q :=
  .bind (monS) (fun ⟨o, s1⟩ => by
    cases o with
    | next env1 => exact monSs
    | _ => exact .const _) (h.imp fun o s1 q => by
    cases o with
    | next env1 => exact q
    | ret v => exact .const _ _ rfl q
    | brk v => exact .const _ _ rfl q
    | cont v => exact .const _ _ rfl q)
theorem gs_asg {i : Nat} {e : IE} (h : GE G d e env st fun v st1 => Q (.next (env.set i (some v))) st1) : GS G d (.asg i e) env st Q := stS (.map h)
theorem gs_asgT {is : List Nat} {e : IE} (h : GV G d e env st fun x st1 => ∃ vs env1, x = .val (.tup vs) ∧ setT env is vs = some env1 ∧ Q (.next env1) st1) : GS G d (.asgT is e) env st Q :=
  stS (.bind (monV) (fun _ => .const _) (h.imp fun x s1 ⟨vs, env1, e, h1, q⟩ => .const _ _ (by
    subst e
    dsimp only
    rw [h1]
    rfl) q))
theorem gs_par {is : List Nat} {es : List IE} (h : GL G d es env st fun vs st1 => ∃ env1, setT env is vs = some env1 ∧ Q (.next env1) st1) : GS G d (.par is es) env st Q :=
  stS (.bind (monL) (fun _ => .const _) (h.imp fun vs s1 ⟨env1, h1, q⟩ => .const _ _ (by
    dsimp only
    rw [h1]
    rfl) q))
theorem gs_put {o e : IE} {k : Str} (h : GE G d e env st fun v st1 => GV G d o env st1 fun x st2 => ∃ m kvs, x = .val (.ref m) ∧ st2[m]? = some (.dct kvs) ∧ kvs.length < lim ∧ Q (.next env) (st2.set m (.dct (dctPut kvs (.inr k) v)))) : GS G d (.put o k e) env st Q :=
  stS (.bind (monE) (fun _ => .bind (monV) fun _ => .const _) (h.imp fun v s1 h => .bind (monV) (fun _ => .const _) (h.imp fun x s2 ⟨m, kvs, e, h1, h2, q⟩ => .const _ _ (by
    subst e
    dsimp only
    rw [h1]
    dsimp only
    rw [decide_eq_true h2]
    rfl) q)))
theorem gs_if {t : IE} {a b : List IS} (h : GT G d t env st fun c st1 => GIf c (GSs G d a env st1 Q) (GSs G d b env st1 Q)) : GS G d (.ifs t a b) env st Q :=
  stS (.bind (monT) (fun ⟨c, s1⟩ => by
    cases c
    · exact monSs
    · exact monSs) (h.imp fun c s1 q => by
    cases c with
    | true => exact q.1 rfl
    | false => exact q.2 rfl))
theorem gs_ret {e : IE} (h : GE G d e env st fun v st1 => Q (.ret v) st1) : GS G d (.ret e) env st Q := stS (.map h)
theorem gs_retN (q : Q (.ret .non) st) : GS G d .retN env st Q := stS (.const _ _ rfl q)
theorem gs_expr {e : IE} (h : GV G d e env st fun _ st1 => Q (.next env) st1) : GS G d (.expr e) env st Q := stS (.map h)
theorem gs_pass (q : Q (.next env) st) : GS G d .pass env st Q := stS (.const _ _ rfl q)
theorem gs_brk (q : Q (.brk env) st) : GS G d .brk env st Q := stS (.const _ _ rfl q)
theorem gs_cont (q : Q (.cont env) st) : GS G d .cont env st Q := stS (.const _ _ rfl q)
theorem gs_while {t : IE} {b : List IS} (h : GLw G d t b env st Q) : GS G d (.whl t b) env st Q := stS h
theorem gs_for {tg : Tg} {ik : Ik} {it : List IE} {b : List IS} (h : GI G d ik it env st fun src st1 => GLf G d tg b src 0 env st1 Q) : GS G d (.forS tg ik it b) env st Q :=
  stS (.bind (monI) (fun _ => monLf) h)
/-- behind a loop's body -/
def GK (P : Env → Store → Prop) (Q : Out → Store → Prop) (o : Out) (st : Store) : Prop := match o with
  | .next env => P env st
  | .cont env => P env st
  | .brk env => Q (.next env) st
  | .ret v => Q (.ret v) st
theorem gk_next {P : Env → Store → Prop} (h : P env st) : GK P Q (.next env) st := h
theorem gk_cont {P : Env → Store → Prop} (h : P env st) : GK P Q (.cont env) st := h
theorem gk_brk {P : Env → Store → Prop} (h : Q (.next env) st) : GK P Q (.brk env) st := h
theorem gk_ret {P : Env → Store → Prop} {v : PV} (h : Q (.ret v) st) : GK P Q (.ret v) st := h
theorem glw_turn {t : IE} {b : List IS} (h : GT G d t env st fun c st1 => GIf c (GSs G d b env st1 (GK (fun env2 st2 => GLw G d t b env2 st2 Q) Q)) (Q (.next env) st1)) : GLw G d t b env st Q := by
  have hm : ∀ (o : Out) (s2 : Store), Mon fun n => (match o with
      | .next env2 => loopW ((run G n).T d) ((run G n).S d) t b n env2 s2
      | .cont env2 => loopW ((run G n).T d) ((run G n).S d) t b n env2 s2
      | .brk env2 => some (.next env2, s2)
      | .ret v => some (.ret v, s2)) := fun o s2 => by
    cases o with
    | next e => exact monLw
    | cont e => exact monLw
    | _ => exact .const _
  have z : Lim (fun n => ((run G n).T d t env st).bind fun (c, st1) => match c with
    | false => some (Out.next env, st1)
    | true => (runSs ((run G n).S d) b env st1).bind fun (o, st2) => match o with
      | .next env2 => loopW ((run G n).T d) ((run G n).S d) t b n env2 st2
      | .cont env2 => loopW ((run G n).T d) ((run G n).S d) t b n env2 st2
      | .brk env2 => some (.next env2, st2)
      | .ret v => some (.ret v, st2)) Q := by
    refine .bind (monT) (fun ⟨c, s1⟩ => ?_) (h.imp fun c s1 q => ?_)
    · cases c
      · exact .const _
      · exact .bind (monSs) fun ⟨o, s2⟩ => hm o s2
    · cases c with
      | false => exact .const _ _ rfl (q.2 rfl)
      | true =>
        refine .bind (monSs) (fun ⟨o, s2⟩ => hm o s2) ((q.1 rfl).imp fun o s2 q => ?_)
        cases o with
        | next e => exact q
        | cont e => exact q
        | brk e => exact .const _ _ rfl q
        | ret v => exact .const _ _ rfl q
  obtain ⟨n, a, s, h1, q⟩ := z
  have : loopW ((run G n).T d) ((run G n).S d) t b (n + 1) env st = some (a, s) := h1
  exact ⟨n + 1, a, s, loopW_le (fun e env s => monT n (n + 1) (by omega)) (fun s' env s => monS n (n + 1) (by omega)) (n + 1) (n + 1) env st (Nat.le_refl _) _ this, q⟩
theorem glf_turn {tg : Tg} {b : List IS} {src : Src} {i : Nat} (h : ∃ o, src.at st i = some o ∧ match o with
    | none => Q (.next env) st
    | some x => ∃ env1, setTg env tg x = some env1 ∧ GSs G d b env1 st (GK (fun env2 st2 => GLf G d tg b src (i + 1) env2 st2 Q) Q)) : GLf G d tg b src i env st Q := by
  have hm : ∀ (o : Out) (s2 : Store), Mon fun n => (match o with
      | .next env2 => loopF ((run G n).S d) tg b src n (i + 1) env2 s2
      | .cont env2 => loopF ((run G n).S d) tg b src n (i + 1) env2 s2
      | .brk env2 => some (.next env2, s2)
      | .ret v => some (.ret v, s2)) := fun o s2 => by
    cases o with
    | next e => exact monLf
    | cont e => exact monLf
    | _ => exact .const _
  have z : Lim (fun n => (src.at st i).bind fun o => match o with
    | none => some (Out.next env, st)
    | some x => (setTg env tg x).bind fun env1 => (runSs ((run G n).S d) b env1 st).bind fun (o, st1) => match o with
      | .next env2 => loopF ((run G n).S d) tg b src n (i + 1) env2 st1
      | .cont env2 => loopF ((run G n).S d) tg b src n (i + 1) env2 st1
      | .brk env2 => some (.next env2, st1)
      | .ret v => some (.ret v, st1)) Q := by
    obtain ⟨o, h1, h⟩ := h
    rw [h1]
    cases o with
    | none => exact .const _ _ rfl h
    | some x =>
      obtain ⟨env1, h2, h⟩ := h
      show Lim (fun n => (setTg env tg x).bind _) Q
      rw [h2]
      refine .bind (monSs) (fun ⟨o, s2⟩ => hm o s2) (h.imp fun o s2 q => ?_)
      cases o with
      | next e => exact q
      | cont e => exact q
      | brk e => exact .const _ _ rfl q
      | ret v => exact .const _ _ rfl q
  obtain ⟨n, a, s, h1, q⟩ := z
  have : loopF ((run G n).S d) tg b src (n + 1) i env st = some (a, s) := h1
  exact ⟨n + 1, a, s, loopF_le (fun s' env s => monS n (n + 1) (by omega)) (n + 1) (n + 1) i env st (Nat.le_refl _) _ this, q⟩
end
theorem glc_turn {elt : IE} {tg : Tg} {ifs : List IE} {own : List Nat} {src : Src} {i : Nat} {acc : List PV} {Q : List PV → Store → Prop} (h : ∃ o, src.at st i = some o ∧ match o with
    | none => Q acc st
    | some x => ∃ env1, setTg (wipeE env own) tg x = some env1 ∧ GIfs G d ifs env1 st fun b st1 => GIf b (GE G d elt env1 st1 fun v st2 => acc.length < lim ∧ GLc G d elt tg ifs own env src (i + 1) (acc ++ [v]) st2 Q) (GLc G d elt tg ifs own env src (i + 1) acc st1 Q)) : GLc G d elt tg ifs own env src i acc st Q := by
  have hm : ∀ (env1 : Env) (b : Bool) (st1 : Store), Mon fun n => (match b with
      | true => (evE (fun e s => (run G n).V d e env1 s) elt st1).bind fun (v, st2) => bif decide (acc.length < lim) then loopC ((run G n).V d) ((run G n).T d) elt tg ifs own env src n (i + 1) (acc ++ [v]) st2 else none
      | false => loopC ((run G n).V d) ((run G n).T d) elt tg ifs own env src n (i + 1) acc st1) := fun env1 b st1 => by
    cases b with
    | false => exact monLc
    | true =>
      refine .bind (monE) fun ⟨v, s2⟩ => ?_
      dsimp only
      cases decide (acc.length < lim) with
      | true => exact monLc
      | false => exact .const _
  have z : Lim (fun n => (src.at st i).bind fun o => match o with
    | none => some (acc, st)
    | some x => (setTg (wipeE env own) tg x).bind fun env1 => (runIfs (fun t s => (run G n).T d t env1 s) ifs st).bind fun (b, st1) => match b with
      | true => (evE (fun e s => (run G n).V d e env1 s) elt st1).bind fun (v, st2) => bif decide (acc.length < lim) then loopC ((run G n).V d) ((run G n).T d) elt tg ifs own env src n (i + 1) (acc ++ [v]) st2 else none
      | false => loopC ((run G n).V d) ((run G n).T d) elt tg ifs own env src n (i + 1) acc st1) Q := by
    obtain ⟨o, h1, h⟩ := h
    rw [h1]
    cases o with
    | none => exact .const _ _ rfl h
    | some x =>
      obtain ⟨env1, h2, h⟩ := h
      show Lim (fun n => (setTg (wipeE env own) tg x).bind _) Q
      rw [h2]
      refine .bind (monIfs) (fun ⟨b, s1⟩ => hm env1 b s1) (h.imp fun b s1 q => ?_)
      cases b with
      | false => exact q.2 rfl
      | true =>
        refine .bind (monE) (fun ⟨v, s2⟩ => ?_) ((q.1 rfl).imp fun v s2 ⟨h3, q⟩ => ?_)
        · dsimp only
          cases decide (acc.length < lim) with
          | true => exact monLc
          | false => exact .const _
        · dsimp only
          rw [decide_eq_true h3]
          exact q
  obtain ⟨n, a, s, h1, q⟩ := z
  have : loopC ((run G n).V d) ((run G n).T d) elt tg ifs own env src (n + 1) i acc st = some (a, s) := h1
  exact ⟨n + 1, a, s, loopC_le (fun e env s => monV n (n + 1) (by omega)) (fun e env s => monT n (n + 1) (by omega)) (n + 1) (n + 1) i acc st (Nat.le_refl _) _ this, q⟩
/-! ### calls -/
/-- a body's end -/
def GF (Q : PV → Store → Prop) (o : Out) (st : Store) : Prop := match o with
  | .ret v => Q v st
  | .next _ => Q .non st
  | _ => False
theorem gf_ret {Q : PV → Store → Prop} {v : PV} (h : Q v st) : GF Q (.ret v) st := h
theorem gf_next {Q : PV → Store → Prop} (h : Q .non st) : GF Q (.next env) st := h
theorem gc_def {f : Nat} {fn : Fn} {vs : List PV} {Q : PV → Store → Prop} (hf : G[f]? = some fn) (hl : vs.length = fn.np) (h : GSs G d fn.body (envOf fn vs) st (GF Q)) : GC G (d + 1) f vs st Q := by
  obtain ⟨n, o, s, h1, q⟩ := h
  cases o with
  | brk _ => exact q.elim
  | cont _ => exact q.elim
  | ret v =>
    dsimp only at h1
    refine ⟨n + 1, v, s, ?_, q⟩
    show stepC G (run G n) (d + 1) f vs st = _
    unfold stepC
    dsimp only
    rw [hf]
    dsimp only
    rw [decide_eq_true hl]
    dsimp only [cond]
    rw [h1]
    rfl
  | next env =>
    dsimp only at h1
    refine ⟨n + 1, .non, s, ?_, q⟩
    show stepC G (run G n) (d + 1) f vs st = _
    unfold stepC
    dsimp only
    rw [hf]
    dsimp only
    rw [decide_eq_true hl]
    dsimp only [cond]
    rw [h1]
    rfl
theorem gc_imp {f : Nat} {vs : List PV} {Q Q' : PV → Store → Prop} (h : GC G d f vs st Q) (w : ∀ v s, Q v s → Q' v s) : GC G d f vs st Q' := Lim.imp h w
theorem gc_more {f : Nat} {vs : List PV} {Q : PV → Store → Prop} {d' : Nat} (h : GC G d f vs st Q) (hd : d ≤ d') : GC G d' f vs st Q := by
  obtain ⟨n, o, s, h1, q⟩ := h
  exact ⟨n, o, s, (run_le G n n (Nat.le_refl _)).C d d' f vs st hd _ h1, q⟩
end
end MI
end
section
set_option Elab.async false
set_option linter.all false
set_option maxRecDepth 100000
set_option maxHeartbeats 4000000
/-! MI17: a law's tables; keywords. -/
namespace MI
open PySem PySem.Spec PyProof.Rows L2
theorem vals_getD {vs : List V} {us : List Value} (h : Vals vs us) (i : Nat) : RelV (vs.getD i .non) (us.getD i .none) := by
  induction h generalizing i with
  | nil => exact rfl
  | cons r _ ih =>
    cases i with
    | zero => exact r
    | succ i => exact ih i
theorem vals_gperm {vs zs : List V} {us ws : List Value} (h1 : Vals vs us) (h2 : Vals zs ws) : ∀ pm : List Nat, Vals (gperm .non pm vs zs) (gperm .none pm us ws)
  | [] => .nil
  | i :: pm => .cons (vals_getD (h1.append h2) i) (vals_gperm h1 h2 pm)
theorem kbn_of {K : PySem.W.Frag} {x qual : Str} {params : Arguments} {body : List Stmt} {scope : Scope} {f : Addr} {fd : FuncData} {ps : List Str} {n : Nat} {ks : List Str} {pm : List Nat} (F : FunD K x qual params body scope [] [] f fd)
    (hb : ∀ (kV doc pmv : Value) (an : Option Addr) (cdv ct : Value) (us ws : List Value), us.length = n → ws.length = ks.length → bindArgs (PySem.W.fnOf x qual params body scope .none kV doc pmv an cdv ct) ⟨us, ks.zip ws⟩ = pure (ps.zip (gperm .none pm us ws))) :
    KBn K fd ps n ks (gperm .none pm) (gperm .non pm) := by
  obtain ⟨oc, od, dV, kV, doc, pmv, an, cdv, ct, osl, rfl, lk, hcd, hD, hK⟩ := F.ex
  rcases hD with ⟨_, rfl⟩ | ⟨e, _⟩
  · exact ⟨fun s us ws _ h1 h2 => .of_eq (hb kV doc pmv an cdv ct us ws h1 h2), fun h1 h2 => vals_gperm h1 h2 pm⟩
  · exact absurd rfl e
theorem lookup_all {β : Type} {P : Str → β → Prop} {l : List (Str × β)} (h : ∀ p ∈ l, P p.1 p.2) : ∀ x n, l.lookup x = some n → P x n := fun x n e => h (x, n) (PySem.mem_of_lookup e)
theorem rows_ok {rows : List Row} (h : rows.all rowC = true) : ∀ r ∈ rows, rowC r = true := List.all_eq_true.mp h
end MI
end
section
set_option Elab.async false
set_option linter.all false
set_option maxRecDepth 100000
set_option maxHeartbeats 4000000
/-! MI18: leaves; loops over what stands still; sizes. -/
namespace MI
open PySem PySem.Spec PyProof.Rows L2
section
variable {G : List Fn} {d : Nat} {env : Env} {st : Store}
theorem gv_name {Q : RV → Store → Prop} {i : Nat} (h : ∃ v, env[i]? = some (some v) ∧ Q (.val v) st) : GV G d (.var i) env st Q := by
  obtain ⟨v, h1, q⟩ := h
  exact gv_var h1 q
/-! ### operators -/
section
variable {Q : RV → Store → Prop} {i j : Int}
theorem gb_add (q : Q (.val (.int (i + j))) st) : GB .Add (.val (.int i)) (.val (.int j)) st Q := ⟨_, rfl, q⟩
theorem gb_sub (q : Q (.val (.int (i - j))) st) : GB .Sub (.val (.int i)) (.val (.int j)) st Q := ⟨_, rfl, q⟩
theorem gb_mul (h : mulOk i j = true) (q : Q (.val (.int (i * j))) st) : GB .Mult (.val (.int i)) (.val (.int j)) st Q := ⟨_, by show Option.map _ (bif mulOk i j then _ else _) = _; rw [h]; rfl, q⟩
theorem gb_div (h : divOk j = true) (q : Q (.val (.int (i / j))) st) : GB .FloorDiv (.val (.int i)) (.val (.int j)) st Q := ⟨_, by show Option.map _ (bif divOk j then _ else _) = _; rw [h]; rfl, q⟩
theorem gb_mod (h : 0 < j) (q : Q (.val (.int (i % j))) st) : GB .Mod (.val (.int i)) (.val (.int j)) st Q := ⟨_, by show Option.map _ (bif decide (0 < j) then _ else _) = _; rw [decide_eq_true h]; rfl, q⟩
theorem gb_pow (h : powOk i j = true) (q : Q (.val (.int (i ^ j.toNat))) st) : GB .Pow (.val (.int i)) (.val (.int j)) st Q := ⟨_, by show Option.map _ (bif powOk i j then _ else _) = _; rw [h]; rfl, q⟩
theorem gb_shl (h : shlOk i j = true) (q : Q (.val (.int (i * 2 ^ j.toNat))) st) : GB .LShift (.val (.int i)) (.val (.int j)) st Q := ⟨_, by show Option.map _ (bif shlOk i j then _ else _) = _; rw [h]; rfl, q⟩
theorem gb_tadd {xs ys : List PV} (h : xs.length + ys.length ≤ lim) (q : Q (.val (.tup (xs ++ ys))) st) : GB .Add (.val (.tup xs)) (.val (.tup ys)) st Q := ⟨_, by show (bif decide _ then _ else _) = _; rw [decide_eq_true h]; rfl, q⟩
theorem gb_tmul {xs : List PV} (h : repOk xs j = true) (q : Q (.val (.tup (List.replicate j.toNat xs).flatten)) st) : GB .Mult (.val (.tup xs)) (.val (.int j)) st Q := ⟨_, by show (bif repOk xs j then _ else _) = _; rw [h]; rfl, q⟩
end
section
variable {Q : Bool → Prop} {i j : Int}
theorem gm_lt (q : Q (decide (i < j))) : GM .Lt (.val (.int i)) (.val (.int j)) st Q := ⟨_, rfl, q⟩
theorem gm_le (q : Q (decide (i ≤ j))) : GM .LtE (.val (.int i)) (.val (.int j)) st Q := ⟨_, rfl, q⟩
theorem gm_gt (q : Q (decide (j < i))) : GM .Gt (.val (.int i)) (.val (.int j)) st Q := ⟨_, rfl, q⟩
theorem gm_ge (q : Q (decide (j ≤ i))) : GM .GtE (.val (.int i)) (.val (.int j)) st Q := ⟨_, rfl, q⟩
theorem gm_eq (q : Q (decide (i = j))) : GM .Eq (.val (.int i)) (.val (.int j)) st Q := ⟨_, rfl, q⟩
theorem gm_ne (q : Q (!decide (i = j))) : GM .NotEq (.val (.int i)) (.val (.int j)) st Q := ⟨_, rfl, q⟩
theorem gm_seq {x y : Str} (q : Q (decide (x = y))) : GM .Eq (.val (.str x)) (.val (.str y)) st Q := ⟨_, rfl, q⟩
theorem gm_nil {xs : List PV} (h : xs.all isIntP = true) (q : Q xs.isEmpty) : GM .Eq (.new xs) (.new []) st Q := by
  refine ⟨xs.isEmpty, ?_, q⟩
  show (bif xs.all isIntP then _ else _) = _
  rw [h]
  rfl
theorem gm_nenil {n : Nat} {xs : List PV} (hn : st[n]? = some (.lst xs)) (h : xs.all isIntP = true) (q : Q (!xs.isEmpty)) : GM .NotEq (.val (.ref n)) (.new []) st Q := by
  refine ⟨!xs.isEmpty, ?_, q⟩
  show cmpNil .NotEq (itemsOf st (.val (.ref n))) = _
  unfold itemsOf
  dsimp only
  rw [hn]
  show (bif xs.all isIntP then _ else _) = _
  rw [h]
  rfl
theorem gm_is {x : RV} {y : PV} {b : Bool} (h : isV x y = some b) (q : Q b) : GM .Is x (.val y) st Q := by
  refine ⟨b, ?_, q⟩
  have : cmpop .Is x (.val y) st = cmpIs .Is (isV x y) := by
    cases x with
    | new xs => rfl
    | val x =>
      cases x <;> cases y <;> rfl
  rw [this, h]
  rfl
end
/-! ### truth -/
theorem gif_true {P R : Prop} (h : P) : GIf true P R := ⟨fun _ => h, fun z => nomatch z⟩
theorem gif_false {P R : Prop} (h : R) : GIf false P R := ⟨fun z => (nomatch z), fun _ => h⟩
theorem gif_not {P R : Prop} {b : Bool} (h : GIf b R P) : GIf (!b) P R := ⟨fun z => h.2 (by simpa using z), fun z => h.1 (by simpa using z)⟩
theorem gif_dec {P R p : Prop} [Decidable p] (h : p → P) (h2 : ¬ p → R) : GIf (decide p) P R := ⟨fun z => h (of_decide_eq_true z), fun z => h2 (of_decide_eq_false z)⟩
theorem gif_dec_t {P R p : Prop} [Decidable p] (w : p) (h : P) : GIf (decide p) P R := gif_dec (fun _ => h) fun z => (z w).elim
theorem gif_dec_f {P R p : Prop} [Decidable p] (w : ¬ p) (h : R) : GIf (decide p) P R := gif_dec (fun z => (w z).elim) fun _ => h
theorem gif_t {P R : Prop} {b : Bool} (w : b = true) (h : P) : GIf b P R := ⟨fun _ => h, fun z => absurd (w.symm.trans z) (by decide)⟩
theorem gif_f {P R : Prop} {b : Bool} (w : b = false) (h : R) : GIf b P R := ⟨fun z => absurd (w.symm.trans z) (by decide), fun _ => h⟩
theorem gif_var {P R : Prop} {b : Bool} (h : b = true → P) (h2 : b = false → R) : GIf b P R := ⟨h, h2⟩
section
variable {Q : Bool → Store → Prop}
theorem gtr_bl {b : Bool} (q : Q b st) : GTr (.val (.bl b)) st Q := ⟨_, rfl, q⟩
theorem gtr_int {i : Int} (q : Q (!decide (i = 0)) st) : GTr (.val (.int i)) st Q := by
  refine ⟨!decide (i = 0), ?_, q⟩
  show some (i != 0) = _
  by_cases h : i = 0
  · subst h; rfl
  · rw [decide_eq_false h]
    show some (!(i == 0)) = _
    rw [beq_false_of_ne h]
end
section
variable {Q : RV → Store → Prop} {i : Int} {b : Bool} {xs : List PV}
theorem gbi_int_int (q : Q (.val (.bl true)) st) : GBi .isinst [.val (.int i), .val (.ty "int")] st Q := ⟨_, rfl, q⟩
theorem gbi_int_bool (q : Q (.val (.bl false)) st) : GBi .isinst [.val (.int i), .val (.ty "bool")] st Q := ⟨_, rfl, q⟩
theorem gbi_int_tup (q : Q (.val (.bl false)) st) : GBi .isinst [.val (.int i), .val (.ty "tuple")] st Q := ⟨_, rfl, q⟩
theorem gbi_int_list (q : Q (.val (.bl false)) st) : GBi .isinst [.val (.int i), .val (.ty "list")] st Q := ⟨_, rfl, q⟩
theorem gbi_int_dict (q : Q (.val (.bl false)) st) : GBi .isinst [.val (.int i), .val (.ty "dict")] st Q := ⟨_, rfl, q⟩
theorem gbi_tup_tup (q : Q (.val (.bl true)) st) : GBi .isinst [.val (.tup xs), .val (.ty "tuple")] st Q := ⟨_, rfl, q⟩
theorem gbi_bl_tup (q : Q (.val (.bl false)) st) : GBi .isinst [.val (.bl b), .val (.ty "tuple")] st Q := ⟨_, rfl, q⟩
theorem gbi_bl_list (q : Q (.val (.bl false)) st) : GBi .isinst [.val (.bl b), .val (.ty "list")] st Q := ⟨_, rfl, q⟩
theorem gbi_bl_dict (q : Q (.val (.bl false)) st) : GBi .isinst [.val (.bl b), .val (.ty "dict")] st Q := ⟨_, rfl, q⟩
theorem gbi_bl_bool (q : Q (.val (.bl true)) st) : GBi .isinst [.val (.bl b), .val (.ty "bool")] st Q := ⟨_, rfl, q⟩
theorem gbi_len_tup (q : Q (.val (.int (xs.length : Int))) st) : GBi .len [.val (.tup xs)] st Q := ⟨_, rfl, q⟩
theorem gbi_int1 (q : Q (.val (.int i)) st) : GBi .int1 [.val (.int i)] st Q := ⟨_, rfl, q⟩
theorem gbi_max {j : Int} (q : Q (.val (.int (max i j))) st) : GBi .max2 [.val (.int i), .val (.int j)] st Q := ⟨.val (.int (max i j)), by
  show some (RV.val (.int (bif decide (j > i) then j else i))) = _
  by_cases h : j > i
  · rw [decide_eq_true h, Int.max_def, if_pos (by omega)]; rfl
  · rw [decide_eq_false h, Int.max_def]
    split
    · have : i = j := by omega
      rw [this]; rfl
    · rfl, q⟩
theorem gx_of {x y : RV} {v : PV} {Q : PV → Store → Prop} (h : getIx x y st = some v) (q : Q v st) : GX x y st Q := ⟨v, h, q⟩
theorem gbi_of {b : Bi} {xs : List RV} {r : RV} (h : biCall b xs st = some r) (q : Q r st) : GBi b xs st Q := ⟨r, h, q⟩
theorem gtr_of {x : RV} {b : Bool} {Q : Bool → Store → Prop} (h : truth st x = some b) (q : Q b st) : GTr x st Q := ⟨b, h, q⟩
theorem gx_dct {n : Nat} {kvs : List (Key × PV)} {s : Str} {v : PV} (h : st[n]? = some (.dct kvs)) (hk : dctGet kvs (.inr s) = some v) {Q : PV → Store → Prop} (q : Q v st) : GX (.val (.ref n)) (.val (.str s)) st Q := ⟨v, by
  show (match st[n]? with
    | some (.dct kvs) => dctGet kvs (.inr s)
    | _ => none) = _
  rw [h]
  exact hk, q⟩
end
/-! ### loops over what stands still -/
theorem glc_next {elt : IE} {tg : Tg} {ifs : List IE} {own : List Nat} {src : Src} {i : Nat} {acc : List PV} {Q : List PV → Store → Prop} {x : PV} (h1 : src.at st i = some (some x)) (h : ∃ env1, setTg (wipeE env own) tg x = some env1 ∧ GIfs G d ifs env1 st fun b st1 => GIf b (GE G d elt env1 st1 fun v st2 => acc.length < lim ∧ GLc G d elt tg ifs own env src (i + 1) (acc ++ [v]) st2 Q) (GLc G d elt tg ifs own env src (i + 1) acc st1 Q)) : GLc G d elt tg ifs own env src i acc st Q := glc_turn ⟨some x, h1, h⟩
theorem glc_end {elt : IE} {tg : Tg} {ifs : List IE} {own : List Nat} {src : Src} {i : Nat} {acc : List PV} {Q : List PV → Store → Prop} (h1 : src.at st i = some none) (q : Q acc st) : GLc G d elt tg ifs own env src i acc st Q := glc_turn ⟨none, h1, q⟩
theorem glf_next {tg : Tg} {b : List IS} {src : Src} {i : Nat} {Q : Out → Store → Prop} {x : PV} (h1 : src.at st i = some (some x)) (h : ∃ env1, setTg env tg x = some env1 ∧ GSs G d b env1 st (GK (fun env2 st2 => GLf G d tg b src (i + 1) env2 st2 Q) Q)) : GLf G d tg b src i env st Q := glf_turn ⟨some x, h1, h⟩
theorem glf_end {tg : Tg} {b : List IS} {src : Src} {i : Nat} {Q : Out → Store → Prop} (h1 : src.at st i = some none) (q : Q (.next env) st) : GLf G d tg b src i env st Q := glf_turn ⟨none, h1, q⟩
theorem glf_items {tg : Tg} {b : List IS} {xs : List PV} {Q : Out → Store → Prop} (P : Nat → Env → Store → Prop) (hs : ∀ i x env st, xs[i]? = some x → P i env st → ∃ env1, setTg env tg x = some env1 ∧ GSs G d b env1 st (GK (P (i + 1)) Q)) (he : ∀ env st, P xs.length env st → Q (.next env) st) :
    ∀ (k i : Nat) (env : Env) (st : Store), xs.length - i = k → i ≤ xs.length → P i env st → GLf G d tg b (.items xs) i env st Q
  | 0, i, env, st, hk, hi, p => by
    have e : i = xs.length := by omega
    subst e
    exact glf_end (by show some xs[xs.length]? = _; simp) (he env st p)
  | k + 1, i, env, st, hk, hi, p => by
    have hlt : i < xs.length := by omega
    obtain ⟨env1, h1, h2⟩ := hs i xs[i] env st (by simp [hlt]) p
    refine glf_next (x := xs[i]) (by show some xs[i]? = _; simp [hlt]) ⟨env1, h1, Lim.imp h2 fun o s q => ?_⟩
    cases o with
    | next e => exact glf_items P hs he k (i + 1) e s (by omega) (by omega) q
    | cont e => exact glf_items P hs he k (i + 1) e s (by omega) (by omega) q
    | brk e => exact q
    | ret v => exact q
theorem glf_all {tg : Tg} {b : List IS} {xs : List PV} {Q : Out → Store → Prop} (P : Nat → Env → Store → Prop) (h0 : P 0 env st) (hs : ∀ i x env st, xs[i]? = some x → P i env st → ∃ env1, setTg env tg x = some env1 ∧ GSs G d b env1 st (GK (P (i + 1)) Q)) (he : ∀ env st, P xs.length env st → Q (.next env) st) :
    GLf G d tg b (.items xs) 0 env st Q := glf_items P hs he _ 0 env st rfl (Nat.zero_le _) h0
theorem glc_items {elt : IE} {tg : Tg} {ifs : List IE} {own : List Nat} {xs : List PV} {Q : List PV → Store → Prop} (P : Nat → List PV → Store → Prop) (hs : ∀ i x acc st, xs[i]? = some x → P i acc st → ∃ env1, setTg (wipeE env own) tg x = some env1 ∧ GIfs G d ifs env1 st fun b st1 => GIf b (GE G d elt env1 st1 fun v st2 => acc.length < lim ∧ P (i + 1) (acc ++ [v]) st2) (P (i + 1) acc st1)) (he : ∀ acc st, P xs.length acc st → Q acc st) :
    ∀ (k i : Nat) (acc : List PV) (st : Store), xs.length - i = k → i ≤ xs.length → P i acc st → GLc G d elt tg ifs own env (.items xs) i acc st Q
  | 0, i, acc, st, hk, hi, p => by
    have e : i = xs.length := by omega
    subst e
    exact glc_end (by show some xs[xs.length]? = _; simp) (he acc st p)
  | k + 1, i, acc, st, hk, hi, p => by
    have hlt : i < xs.length := by omega
    obtain ⟨env1, h1, h2⟩ := hs i xs[i] acc st (by simp [hlt]) p
    refine glc_next (x := xs[i]) (by show some xs[i]? = _; simp [hlt]) ⟨env1, h1, Lim.imp h2 fun b s q => ⟨fun hb => ?_, fun hb => ?_⟩⟩
    · exact Lim.imp (q.1 hb) fun v s ⟨q1, q2⟩ => ⟨q1, glc_items P hs he k (i + 1) _ s (by omega) (by omega) q2⟩
    · exact glc_items P hs he k (i + 1) _ s (by omega) (by omega) (q.2 hb)
theorem glc_all {elt : IE} {tg : Tg} {ifs : List IE} {own : List Nat} {xs : List PV} {Q : List PV → Store → Prop} (P : Nat → List PV → Store → Prop) (h0 : P 0 [] st) (hs : ∀ i x acc st, xs[i]? = some x → P i acc st → ∃ env1, setTg (wipeE env own) tg x = some env1 ∧ GIfs G d ifs env1 st fun b st1 => GIf b (GE G d elt env1 st1 fun v st2 => acc.length < lim ∧ P (i + 1) (acc ++ [v]) st2) (P (i + 1) acc st1)) (he : ∀ acc st, P xs.length acc st → Q acc st) :
    GLc G d elt tg ifs own env (.items xs) 0 [] st Q := glc_items P hs he _ 0 [] st rfl (Nat.zero_le _) h0
end
section
variable {G : List Fn} {d : Nat} {env : Env}
theorem ik_rng {n : Nat} {st : Store} (h : n ≤ 1000000) : ikSrc .rng [.val (.int (n : Nat))] st = some (.items ((List.range n).map fun (i : Nat) => .int (i : Int))) := by
  unfold ikSrc
  dsimp only
  have e1 : decide ((n : Int) < 2 ^ 62) = true := decide_eq_true (by omega)
  have e2 : decide (-(2 ^ 62) ≤ (n : Int)) = true := decide_eq_true (by omega)
  rw [e1, e2]
  rfl
theorem ik_rng0 {z : Int} {st : Store} (h : z ≤ 0) (h2 : -1000000 ≤ z) : ikSrc .rng [.val (.int z)] st = some (.items []) := by
  unfold ikSrc
  dsimp only
  have e1 : decide (z < 2 ^ 62) = true := decide_eq_true (by omega)
  have e2 : decide (-(2 ^ 62) ≤ z) = true := decide_eq_true (by omega)
  rw [e1, e2, show z.toNat = 0 by omega]
  rfl
def rngL (n : Nat) : List PV := (List.range n).map fun (i : Nat) => .int (i : Int)
theorem rngL_len {n : Nat} : (rngL n).length = n := by simp [rngL]
def GRg (x : RV) (st : Store) (Q : Src → Store → Prop) : Prop := ∃ z, x = .val (.int z) ∧ (-1000000 ≤ z ∧ z ≤ 1000000) ∧ Q (.items (rngL z.toNat)) st
theorem grg_of {z : Int} {st : Store} {Q : Src → Store → Prop} (h1 : -1000000 ≤ z) (h2 : z ≤ 1000000) (q : Q (.items (rngL z.toNat)) st) : GRg (.val (.int z)) st Q := ⟨z, rfl, ⟨h1, h2⟩, q⟩
/-- range(n): for n below 0 nothing -/
theorem gi_rng {e : IE} {st : Store} {Q : Src → Store → Prop} (h : GV G d e env st fun x st1 => GRg x st1 Q) : GI G d .rng [e] env st Q := by
  refine gi_of (gr_cons (h.imp fun x s ⟨z, e, ⟨h1, h2⟩, q⟩ => gr_nil ⟨.items (rngL z.toNat), ?_, q⟩))
  subst e
  rcases Int.le_total 0 z with h3 | h3
  · have := ik_rng (n := z.toNat) (st := s) (by omega)
    rw [show ((z.toNat : Nat) : Int) = z by omega] at this
    exact this
  · rw [ik_rng0 h3 h1, show z.toNat = 0 by omega]
    rfl
end
/-! ### the deck of a law -/
abbrev deckK (l m n : PV) : List (Key × PV) := [(.inr "left", l), (.inr "mixed", m), (.inr "draws", n)]
theorem deck_left {l m n : PV} : dctGet (deckK l m n) (.inr "left") = some l := by rfl
theorem deck_mixed {l m n : PV} : dctGet (deckK l m n) (.inr "mixed") = some m := by rfl
theorem deck_draws {l m n : PV} : dctGet (deckK l m n) (.inr "draws") = some n := by rfl
theorem deck_put {l m n v : PV} : dctPut (deckK l m n) (.inr "draws") v = deckK l m v := by rfl
/-- the deck D with its list L, at most N draws so far -/
structure DeckSt (D L N : Nat) (st : Store) : Prop where
  dct : ∃ m n : Int, st[D]? = some (.dct (deckK (.ref L) (.int m) (.int n))) ∧ 0 ≤ m ∧ m < 2147483648 ∧ 0 ≤ n ∧ n ≤ N
  lst : ∃ xs, st[L]? = some (.lst xs) ∧ xs.all isIntP = true ∧ xs.length ≤ 64
  ne : D ≠ L
/-- what is neither the deck nor its list stays -/
structure Fr (D L : Nat) (st st' : Store) : Prop where
  len : st.length ≤ st'.length
  at_ : ∀ i, i ≠ D → i ≠ L → i < st.length → st'[i]? = st[i]?
theorem Fr.refl {D L : Nat} {st : Store} : Fr D L st st := ⟨Nat.le_refl _, fun _ _ _ _ => rfl⟩
theorem Fr.trans {D L : Nat} {st st1 st2 : Store} (a : Fr D L st st1) (b : Fr D L st1 st2) : Fr D L st st2 :=
  ⟨Nat.le_trans a.len b.len, fun i h1 h2 h3 => (b.at_ i h1 h2 (Nat.lt_of_lt_of_le h3 a.len)).trans (a.at_ i h1 h2 h3)⟩
theorem Fr.new {D L : Nat} {st : Store} {c : Cell} : Fr D L st (st ++ [c]) := ⟨by simp, fun i _ _ h => List.getElem?_append_left h⟩
theorem DeckSt.new {D L N : Nat} {st : Store} {c : Cell} (h : DeckSt D L N st) : DeckSt D L N (st ++ [c]) := by
  obtain ⟨⟨m, n, h1, h2⟩, ⟨xs, h3, h4⟩, h5⟩ := h
  exact ⟨⟨m, n, by rw [List.getElem?_append_left (List.getElem?_eq_some_iff.mp h1).1]; exact h1, h2⟩, ⟨xs, by rw [List.getElem?_append_left (List.getElem?_eq_some_iff.mp h3).1]; exact h3, h4⟩, h5⟩
theorem DeckSt.mono {D L N M : Nat} {st : Store} (h : DeckSt D L N st) (hm : N ≤ M) : DeckSt D L M st := by
  obtain ⟨⟨m, n, h1, h2, h3, h4, h5⟩, h6, h7⟩ := h
  exact ⟨⟨m, n, h1, h2, h3, h4, by omega⟩, h6, h7⟩
theorem at_self {st : Store} {i : Nat} {c c' : Cell} (h : st[i]? = some c) : (st.set i c')[i]? = some c' := by
  rw [List.getElem?_set_self (List.getElem?_eq_some_iff.mp h).1]
theorem at_ne {st : Store} {i j : Nat} {c : Cell} {o : Option Cell} (hn : i ≠ j) (h : st[j]? = o) : (st.set i c)[j]? = o := by
  rw [List.getElem?_set_ne hn]
  exact h
/-! ### sizes -/
theorem log2_lt {n a : Nat} (h : n < 2 ^ a) : n.log2 ≤ a := by
  rcases Nat.eq_zero_or_pos n with e | hp
  · subst e
    simp
  · exact Nat.le_of_lt ((Nat.log2_lt (by omega)).mpr h)
theorem mulOk_of {i j : Int} {a b : Nat} (hi : i.natAbs < 2 ^ a) (hj : j.natAbs < 2 ^ b) (h : a + b < 1000000) : mulOk i j = true := by
  unfold mulOk
  rw [decide_eq_true_eq]
  have := log2_lt hi
  have := log2_lt hj
  omega
theorem sz_any (i : Int) : i.natAbs < 2 ^ (i.natAbs.log2 + 1) := Nat.lt_log2_self
theorem sz_mul {i j : Int} {a b : Nat} (hi : i.natAbs < 2 ^ a) (hj : j.natAbs < 2 ^ b) : (i * j).natAbs < 2 ^ (a + b) := by
  rw [Int.natAbs_mul, Nat.pow_add]
  exact Nat.mul_lt_mul'' hi hj
theorem sz_add {i j : Int} {a : Nat} (hi : i.natAbs < 2 ^ a) (hj : j.natAbs < 2 ^ a) : (i + j).natAbs < 2 ^ (a + 1) := by
  have := Int.natAbs_add_le i j
  rw [Nat.pow_succ]
  omega
theorem sz_plus {i j : Int} {a b : Nat} (hi : i.natAbs < 2 ^ a) (hj : j.natAbs < 2 ^ b) : (i + j).natAbs < 2 ^ (max a b + 1) :=
  sz_add (Nat.lt_of_lt_of_le hi (Nat.pow_le_pow_right (by decide) (Nat.le_max_left ..))) (Nat.lt_of_lt_of_le hj (Nat.pow_le_pow_right (by decide) (Nat.le_max_right ..)))
theorem sz_sub {i j : Int} {a : Nat} (hi : i.natAbs < 2 ^ a) (hj : j.natAbs < 2 ^ a) : (i - j).natAbs < 2 ^ (a + 1) := by
  have := Int.natAbs_sub_le i j
  rw [Nat.pow_succ]
  omega
theorem sz_neg {i : Int} {a : Nat} (hi : i.natAbs < 2 ^ a) : (-i).natAbs < 2 ^ a := by rw [Int.natAbs_neg]; exact hi
theorem sz_mono {i : Int} {a b : Nat} (hi : i.natAbs < 2 ^ a) (h : a ≤ b) : i.natAbs < 2 ^ b := Nat.lt_of_lt_of_le hi (Nat.pow_le_pow_right (by decide) h)
theorem sz_pow {n : Nat} : ((2 : Int) ^ n).natAbs < 2 ^ (n + 1) := by
  rw [Int.natAbs_pow]
  show 2 ^ n < _
  exact Nat.pow_lt_pow_right (by decide) (by omega)
theorem sz_div {i j : Int} {a : Nat} (hi : i.natAbs < 2 ^ a) (hj : 0 < j) : (i / j).natAbs ≤ i.natAbs := by
  rcases Int.le_total 0 i with h | h
  · have h1 : 0 ≤ i / j := Int.ediv_nonneg h (by omega)
    have h2 : i / j ≤ i := Int.ediv_le_self _ h
    omega
  · have h2 : i ≤ i / j := by
      have := Int.le_ediv_of_mul_le (a := i) (b := i) hj (by
        have := Int.mul_nonpos_of_nonpos_of_nonneg h (show 0 ≤ j - 1 by omega)
        rw [Int.mul_sub, Int.mul_one] at this
        omega)
      exact this
    have h1 : i / j ≤ 0 := by
      have := Int.ediv_le_ediv hj h
      simpa using this
    omega
end MI
end
section
set_option Elab.async false
set_option linter.all false
set_option maxRecDepth 100000
set_option maxHeartbeats 0
namespace K01
open PySem PySem.Spec PyProof.Rows L2
def T : MI.Tab := ⟨[("EIGHT", 8)], [("bool", "bool"), ("dict", "dict"), ("int", "int"), ("list", "list"), ("str", "str"), ("tuple", "tuple")], [("all", .all), ("int", .int1), ("isinstance", .isinst), ("len", .len), ("list", .list1), ("max", .max2), ("range", .range), ("tuple", .tuple1), ("zip", .zip)], [(13, ["k", "d", "c", "b", "a"], [4, 3, 2, 1, 0]), (14, ["other", "one"], [1, 0]), (15, ["other", "one"], [1, 0]), (16, ["one"], [0]), (17, ["one"], [0]), (18, ["j", "one"], [1, 0])]⟩
def b_is_int : List MI.IS := [(.ret (.and [(.bi .isinst [(.var 0), (.ty "int")]), (.not (.bi .isinst [(.var 0), (.ty "bool")]))]))]
def b_is_from : List MI.IS := [(.ret (.and [(.call 0 [(.var 0)]), (.cmp .GtE (.var 0) (.var 1))]))]
def b_is_row : List MI.IS := [(.ret (.and [(.bi .isinst [(.var 0), (.ty "tuple")]), (.cmp .Eq (.bi .len [(.var 0)]) (.var 1))]))]
def b_is_root_value : List MI.IS := [(.ifs (.tor [(.tnot (.tval (.call 2 [(.var 0), (.lit (.int 5))]))), (.tnot (.tval (.bi .all [(.comp (.call 0 [(.var 6)]) (.name 6) .seq [(.var 0)] [] [6])]))), (.tnot (.tval (.call 1 [(.idx (.var 0) (.lit (.int 4))), (.lit (.int 0))])))]) [(.ret (.lit (.bl false)))] []), (.asgT [1, 2, 3, 4, 5] (.var 0)), (.ret (.or [(.cmp .Eq (.var 5) (.lit (.int 0))), (.cmp .Eq (.bin .Mod (.bin .Sub (.var 1) (.var 3)) (.lit (.int 2))) (.lit (.int 1))), (.cmp .Eq (.bin .Mod (.bin .Sub (.var 2) (.var 4)) (.lit (.int 2))) (.lit (.int 1)))]))]
def b_low : List MI.IS := [(.whl (.tand [(.tval (.cmp .Gt (.var 4) (.lit (.int 0)))), (.tval (.cmp .Eq (.bin .Mod (.bin .Sub (.var 0) (.var 2)) (.lit (.int 2))) (.lit (.int 0)))), (.tval (.cmp .Eq (.bin .Mod (.bin .Sub (.var 1) (.var 3)) (.lit (.int 2))) (.lit (.int 0))))]) [(.par [0, 1, 2, 3, 4] [(.bin .FloorDiv (.bin .Sub (.var 1) (.var 3)) (.lit (.int 2))), (.bin .FloorDiv (.bin .Add (.var 0) (.var 2)) (.lit (.int 2))), (.bin .FloorDiv (.bin .Add (.var 1) (.var 3)) (.lit (.int 2))), (.bin .FloorDiv (.bin .Sub (.var 2) (.var 0)) (.lit (.int 2))), (.bin .Sub (.var 4) (.lit (.int 1)))])]), (.ret (.tup [(.var 0), (.var 1), (.var 2), (.var 3), (.var 4)]))]
def b_times_r : List MI.IS := [(.asgT [2, 3, 4, 5] (.var 0)), (.ifs (.tval (.cmp .Eq (.bin .Mod (.var 1) (.lit (.int 2))) (.lit (.int 1)))) [(.par [2, 3, 4, 5] [(.bin .Sub (.var 3) (.var 5)), (.bin .Add (.var 2) (.var 4)), (.bin .Add (.var 3) (.var 5)), (.bin .Sub (.var 4) (.var 2))])] []), (.asg 6 (.bin .LShift (.lit (.int 1)) (.bin .FloorDiv (.var 1) (.lit (.int 2))))), (.ret (.tup [(.bin .Mult (.var 6) (.var 2)), (.bin .Mult (.var 6) (.var 3)), (.bin .Mult (.var 6) (.var 4)), (.bin .Mult (.var 6) (.var 5))]))]
def b_plus : List MI.IS := [(.ifs (.tval (.cmp .Lt (.idx (.var 0) (.lit (.int 4))) (.idx (.var 1) (.lit (.int 4))))) [(.par [0, 1] [(.var 1), (.var 0)])] []), (.asg 2 (.call 5 [(.slice (.var 1) none (some (.lit (.int 4)))), (.bin .Sub (.idx (.var 0) (.lit (.int 4))) (.idx (.var 1) (.lit (.int 4))))])), (.ret (.call 4 [(.bin .Add (.idx (.var 0) (.lit (.int 0))) (.idx (.var 2) (.lit (.int 0)))), (.bin .Add (.idx (.var 0) (.lit (.int 1))) (.idx (.var 2) (.lit (.int 1)))), (.bin .Add (.idx (.var 0) (.lit (.int 2))) (.idx (.var 2) (.lit (.int 2)))), (.bin .Add (.idx (.var 0) (.lit (.int 3))) (.idx (.var 2) (.lit (.int 3)))), (.idx (.var 0) (.lit (.int 4)))]))]
def b_minus : List MI.IS := [(.ret (.tup [(.neg (.idx (.var 0) (.lit (.int 0)))), (.neg (.idx (.var 0) (.lit (.int 1)))), (.neg (.idx (.var 0) (.lit (.int 2)))), (.neg (.idx (.var 0) (.lit (.int 3)))), (.idx (.var 0) (.lit (.int 4)))]))]
def b_times : List MI.IS := [(.asgT [2, 3, 4, 5, 6] (.var 0)), (.asgT [7, 8, 9, 10, 11] (.var 1)), (.ret (.call 4 [(.bin .Sub (.bin .Sub (.bin .Sub (.bin .Mult (.var 2) (.var 7)) (.bin .Mult (.var 3) (.var 10))) (.bin .Mult (.var 4) (.var 9))) (.bin .Mult (.var 5) (.var 8))), (.bin .Sub (.bin .Sub (.bin .Add (.bin .Mult (.var 2) (.var 8)) (.bin .Mult (.var 3) (.var 7))) (.bin .Mult (.var 4) (.var 10))) (.bin .Mult (.var 5) (.var 9))), (.bin .Sub (.bin .Add (.bin .Add (.bin .Mult (.var 2) (.var 9)) (.bin .Mult (.var 3) (.var 8))) (.bin .Mult (.var 4) (.var 7))) (.bin .Mult (.var 5) (.var 10))), (.bin .Add (.bin .Add (.bin .Add (.bin .Mult (.var 2) (.var 10)) (.bin .Mult (.var 3) (.var 9))) (.bin .Mult (.var 4) (.var 8))) (.bin .Mult (.var 5) (.var 7))), (.bin .Add (.var 6) (.var 11))]))]
def b_bar : List MI.IS := [(.asgT [1, 2, 3, 4, 5] (.var 0)), (.ret (.tup [(.var 1), (.neg (.var 4)), (.neg (.var 3)), (.neg (.var 2)), (.var 5)]))]
def b_turned_by : List MI.IS := [(.asgT [2, 3, 4, 5, 6] (.var 0)), (.forS (.name 7) .rng [(.bin .Mod (.var 1) (.glob 8))] [(.par [2, 3, 4, 5] [(.neg (.var 5)), (.var 2), (.var 3), (.var 4)])]), (.ret (.tup [(.var 2), (.var 3), (.var 4), (.var 5), (.var 6)]))]
def b_need_root : List MI.IS := [(.ifs (.tnot (.tval (.call 3 [(.var 0)]))) [.never] [])]
def b_need_numbers : List MI.IS := [(.forS (.name 1) .seq [(.slice (.var 0) none (some (.neg (.lit (.int 1)))))] [(.ifs (.tnot (.tval (.call 0 [(.var 1)]))) [.never] [])]), (.ifs (.tnot (.tval (.call 1 [(.idx (.var 0) (.neg (.lit (.int 1)))), (.lit (.int 0))]))) [.never] [])]
def b_lowest_root : List MI.IS := [(.expr (.call 12 [(.tup [(.var 0), (.var 1), (.var 2), (.var 3), (.var 4)])])), (.ret (.call 4 [(.var 0), (.var 1), (.var 2), (.var 3), (.var 4)]))]
def b_root_plus : List MI.IS := [(.expr (.call 11 [(.var 0)])), (.expr (.call 11 [(.var 1)])), (.ret (.call 6 [(.var 0), (.var 1)]))]
def b_root_times : List MI.IS := [(.expr (.call 11 [(.var 0)])), (.expr (.call 11 [(.var 1)])), (.ret (.call 8 [(.var 0), (.var 1)]))]
def b_root_minus : List MI.IS := [(.expr (.call 11 [(.var 0)])), (.ret (.call 7 [(.var 0)]))]
def b_conjugate : List MI.IS := [(.expr (.call 11 [(.var 0)])), (.ret (.call 9 [(.var 0)]))]
def b_turned : List MI.IS := [(.expr (.call 11 [(.var 0)])), (.ifs (.tnot (.tval (.call 0 [(.var 1)]))) [.never] []), (.ret (.call 10 [(.var 0), (.var 1)]))]
def b_law_deck : List MI.IS := [(.asg 1 (.lit (.int 15376001))), (.forS (.name 2) .seq [(.slice (.var 0) none (some (.lit (.int 63))))] [(.asg 1 (.bin .Mod (.bi .int1 [(.bin .Add (.bin .Add (.bin .Mult (.var 1) (.lit (.int 48271))) (.bin .Mod (.bi .int1 [(.var 2)]) (.lit (.int 2147483563)))) (.lit (.int 32)))]) (.lit (.int 2147483629))))]), (.ret (.dct ["left", "mixed", "draws"] [(.rev (.comp (.bi .int1 [(.var 2)]) (.name 2) .seq [(.slice (.var 0) none (some (.lit (.int 63))))] [] [2])), (.var 1), (.lit (.int 0))]))]
def b_law_draw : List MI.IS := [(.put (.var 0) "draws" (.bin .Add (.idx (.var 0) (.lit (.str "draws"))) (.lit (.int 1)))), (.asg 2 (.bin .Add (.idx (.var 0) (.lit (.str "mixed"))) (.bin .Mult (.lit (.int 62047)) (.idx (.var 0) (.lit (.str "draws")))))), (.ifs (.tval (.cmp .NotEq (.idx (.var 0) (.lit (.str "left"))) (.lst []))) [(.asg 3 (.pop (.idx (.var 0) (.lit (.str "left"))))), (.ifs (.tval (.cmp .GtE (.var 3) (.bin .Pow (.lit (.int 10)) (.lit (.int 18))))) [(.expr (.append (.idx (.var 0) (.lit (.str "left"))) (.bin .FloorDiv (.var 3) (.bi .max2 [(.lit (.int 2)), (.var 1)])))), (.ret (.bin .Mod (.bi .int1 [(.var 3)]) (.var 1)))] []), (.asg 2 (.bin .Add (.var 2) (.bin .Mod (.bi .int1 [(.var 3)]) (.lit (.int 2147483629)))))] []), (.asg 2 (.bin .Mod (.bi .int1 [(.bin .Add (.bin .Mult (.var 2) (.lit (.int 40692))) (.lit (.int 58)))]) (.lit (.int 2147483647)))), (.asg 2 (.bin .Mod (.bi .int1 [(.bin .Add (.bin .Add (.bin .Mult (.var 2) (.var 2)) (.bin .Mult (.lit (.int 54037)) (.idx (.var 0) (.lit (.str "draws"))))) (.lit (.int 19)))]) (.lit (.int 2147483587)))), (.asg 2 (.bin .Mod (.bi .int1 [(.bin .Mult (.var 2) (.lit (.int 39373)))]) (.lit (.int 2147483563)))), (.ret (.bin .Mod (.bi .int1 [(.bin .FloorDiv (.var 2) (.lit (.int 64)))]) (.var 1)))]
def b_law_pick : List MI.IS := [(.ret (.idx (.var 1) (.call 20 [(.var 0), (.bi .len [(.var 1)])])))]
def b_law_same : List MI.IS := [(.ifs (.tval (.bi .isinst [(.var 1), (.ty "tuple")])) [(.ifs (.tor [(.tnot (.tval (.bi .isinst [(.var 0), (.ty "tuple")]))), (.tval (.cmp .NotEq (.bi .len [(.var 0)]) (.bi .len [(.var 1)])))]) [(.ret (.lit (.bl false)))] []), (.ret (.cmp .Eq (.comp (.lit (.int 1)) (.tup [2, 3]) .zip [(.var 0), (.var 1)] [(.tnot (.tval (.call 22 [(.var 2), (.var 3)])))] [2, 3]) (.lst [])))] []), (.ifs (.tval (.bi .isinst [(.var 1), (.ty "list")])) [(.ret (.and [(.bi .isinst [(.var 0), (.ty "list")]), (.call 22 [(.bi .tuple1 [(.var 0)]), (.bi .tuple1 [(.var 1)])])]))] []), (.ifs (.tval (.bi .isinst [(.var 1), (.ty "dict")])) [(.ret (.and [(.bi .isinst [(.var 0), (.ty "dict")]), (.cmp .Eq .never .never)]))] []), (.ifs (.tor [(.tval (.cmp .Is (.var 1) (.lit .non))), (.tval (.bi .isinst [(.var 1), (.ty "bool")]))]) [(.ret (.ife (.tval (.cmp .Is (.var 1) (.lit .non))) (.cmp .Is (.var 0) (.lit .non)) (.ife (.tval (.var 1)) (.cmp .Is (.var 0) (.lit (.bl true))) (.cmp .Is (.var 0) (.lit (.bl false))))))] []), (.ifs (.tval (.bi .isinst [(.var 1), (.ty "int")])) [(.ret (.and [(.bi .isinst [(.var 0), (.ty "int")]), (.not (.bi .isinst [(.var 0), (.ty "bool")])), (.cmp .Eq (.var 0) (.var 1))]))] []), (.ret (.and [(.bi .isinst [(.var 0), (.ty "str")]), (.cmp .Eq (.var 0) (.var 1))]))]
def b_law_int : List MI.IS := [(.asg 2 (.call 20 [(.var 0), (.lit (.int 6))])), (.ifs (.tval (.cmp .Lt (.var 2) (.lit (.int 3)))) [(.ret (.bin .Sub (.call 20 [(.var 0), (.call 21 [(.var 0), (.tup [(.lit (.int 3)), (.lit (.int 8)), (.lit (.int 2001))])])]) (.call 21 [(.var 0), (.tup [(.lit (.int 1)), (.lit (.int 3)), (.lit (.int 1000))])])))] []), (.asg 3 (.bin .Add (.lit (.int 1)) (.call 20 [(.var 0), (.var 1)]))), (.asg 4 (.bin .Pow (.lit (.int 10)) (.lit (.int 0)))), (.ifs (.tval (.cmp .Lt (.var 2) (.lit (.int 5)))) [(.asg 4 (.lit (.int 0))), (.forS (.name 5) .rng [(.bin .FloorDiv (.bin .Add (.var 3) (.lit (.int 8))) (.lit (.int 9)))] [(.asg 4 (.bin .Add (.bin .Mult (.var 4) (.lit (.int 1000000000))) (.call 20 [(.var 0), (.lit (.int 1000000000))])))]), (.forS (.name 5) .rng [(.bin .Sub (.bin .Mult (.lit (.int 9)) (.bin .FloorDiv (.bin .Add (.var 3) (.lit (.int 8))) (.lit (.int 9)))) (.var 3))] [(.asg 4 (.bin .FloorDiv (.var 4) (.lit (.int 10))))])] [(.par [6, 7] [(.call 21 [(.var 0), (.tup [(.tup [(.lit (.int 2)), (.bin .Mult (.var 3) (.lit (.int 3)))]), (.tup [(.lit (.int 10)), (.bin .Sub (.var 3) (.lit (.int 1)))])])]), (.lit (.int 1))]), (.forS (.name 5) .rng [(.idx (.var 6) (.lit (.int 1)))] [(.asg 7 (.bin .Mult (.var 7) (.idx (.var 6) (.lit (.int 0)))))]), (.asg 4 (.bin .Sub (.var 7) (.call 20 [(.var 0), (.lit (.int 3))])))]), (.ret (.ife (.tval (.cmp .Eq (.call 20 [(.var 0), (.lit (.int 2))]) (.lit (.int 0)))) (.neg (.var 4)) (.var 4)))]
def b_law_low : List MI.IS := [(.whl (.tand [(.tval (.cmp .Gt (.var 4) (.lit (.int 0)))), (.tval (.cmp .Eq (.bin .Mod (.bi .int1 [(.bin .Sub (.var 0) (.var 2))]) (.lit (.int 2))) (.lit (.int 0)))), (.tval (.cmp .Eq (.bin .Mod (.bi .int1 [(.bin .Sub (.var 1) (.var 3))]) (.lit (.int 2))) (.lit (.int 0))))]) [(.par [0, 1, 2, 3, 4] [(.bin .FloorDiv (.bin .Sub (.var 1) (.var 3)) (.lit (.int 2))), (.bin .FloorDiv (.bin .Add (.var 0) (.var 2)) (.lit (.int 2))), (.bin .FloorDiv (.bin .Add (.var 1) (.var 3)) (.lit (.int 2))), (.bin .FloorDiv (.bin .Sub (.var 2) (.var 0)) (.lit (.int 2))), (.bin .Sub (.var 4) (.lit (.int 1)))])]), (.ret (.tup [(.var 0), (.var 1), (.var 2), (.var 3), (.var 4)]))]
def b_law_raised : List MI.IS := [(.forS (.name 5) .rng [(.var 4)] [(.par [0, 1, 2, 3] [(.bin .Sub (.var 1) (.var 3)), (.bin .Add (.var 0) (.var 2)), (.bin .Add (.var 1) (.var 3)), (.bin .Sub (.var 2) (.var 0))])]), (.ret (.tup [(.var 0), (.var 1), (.var 2), (.var 3)]))]
def b_law_plus : List MI.IS := [(.asg 2 (.bi .max2 [(.idx (.var 0) (.lit (.int 4))), (.idx (.var 1) (.lit (.int 4)))])), (.par [3, 4] [(.call 25 [(.idx (.var 0) (.lit (.int 0))), (.idx (.var 0) (.lit (.int 1))), (.idx (.var 0) (.lit (.int 2))), (.idx (.var 0) (.lit (.int 3))), (.bin .Sub (.var 2) (.idx (.var 0) (.lit (.int 4))))]), (.call 25 [(.idx (.var 1) (.lit (.int 0))), (.idx (.var 1) (.lit (.int 1))), (.idx (.var 1) (.lit (.int 2))), (.idx (.var 1) (.lit (.int 3))), (.bin .Sub (.var 2) (.idx (.var 1) (.lit (.int 4))))])]), (.ret (.call 24 [(.bin .Add (.idx (.var 3) (.lit (.int 0))) (.idx (.var 4) (.lit (.int 0)))), (.bin .Add (.idx (.var 3) (.lit (.int 1))) (.idx (.var 4) (.lit (.int 1)))), (.bin .Add (.idx (.var 3) (.lit (.int 2))) (.idx (.var 4) (.lit (.int 2)))), (.bin .Add (.idx (.var 3) (.lit (.int 3))) (.idx (.var 4) (.lit (.int 3)))), (.var 2)]))]
def b_law_four : List MI.IS := [(.asgT [2, 3, 4, 5] (.var 0)), (.asgT [6, 7, 8, 9] (.var 1)), (.ret (.tup [(.bin .Sub (.bin .Sub (.bin .Sub (.bin .Mult (.var 2) (.var 6)) (.bin .Mult (.var 3) (.var 9))) (.bin .Mult (.var 4) (.var 8))) (.bin .Mult (.var 5) (.var 7))), (.bin .Sub (.bin .Sub (.bin .Add (.bin .Mult (.var 2) (.var 7)) (.bin .Mult (.var 3) (.var 6))) (.bin .Mult (.var 4) (.var 9))) (.bin .Mult (.var 5) (.var 8))), (.bin .Sub (.bin .Add (.bin .Add (.bin .Mult (.var 2) (.var 8)) (.bin .Mult (.var 3) (.var 7))) (.bin .Mult (.var 4) (.var 6))) (.bin .Mult (.var 5) (.var 9))), (.bin .Add (.bin .Add (.bin .Add (.bin .Mult (.var 2) (.var 9)) (.bin .Mult (.var 3) (.var 8))) (.bin .Mult (.var 4) (.var 7))) (.bin .Mult (.var 5) (.var 6)))]))]
def b_law_times : List MI.IS := [(.asg 2 (.call 27 [(.slice (.var 0) none (some (.lit (.int 4)))), (.slice (.var 1) none (some (.lit (.int 4))))])), (.ret (.call 24 [(.idx (.var 2) (.lit (.int 0))), (.idx (.var 2) (.lit (.int 1))), (.idx (.var 2) (.lit (.int 2))), (.idx (.var 2) (.lit (.int 3))), (.bin .Add (.idx (.var 0) (.lit (.int 4))) (.idx (.var 1) (.lit (.int 4))))]))]
def b_law_minus : List MI.IS := [(.ret (.tup [(.neg (.idx (.var 0) (.lit (.int 0)))), (.neg (.idx (.var 0) (.lit (.int 1)))), (.neg (.idx (.var 0) (.lit (.int 2)))), (.neg (.idx (.var 0) (.lit (.int 3)))), (.idx (.var 0) (.lit (.int 4)))]))]
def b_law_conjugate : List MI.IS := [(.ret (.tup [(.idx (.var 0) (.lit (.int 0))), (.neg (.idx (.var 0) (.lit (.int 3)))), (.neg (.idx (.var 0) (.lit (.int 2)))), (.neg (.idx (.var 0) (.lit (.int 1)))), (.idx (.var 0) (.lit (.int 4)))]))]
def b_law_turned : List MI.IS := [(.asg 2 (.var 0)), (.forS (.name 3) .rng [(.bin .Mod (.bi .int1 [(.var 1)]) (.lit (.int 8)))] [(.asg 2 (.tup [(.neg (.idx (.var 2) (.lit (.int 3)))), (.idx (.var 2) (.lit (.int 0))), (.idx (.var 2) (.lit (.int 1))), (.idx (.var 2) (.lit (.int 2))), (.idx (.var 2) (.lit (.int 4)))]))]), (.ret (.var 2))]
def b_law_root : List MI.IS := [(.asg 1 (.call 20 [(.var 0), (.lit (.int 8))])), (.ifs (.tval (.cmp .Eq (.var 1) (.lit (.int 0)))) [(.asg 2 (.call 31 [(.tup [(.lit (.int 1)), (.lit (.int 0)), (.lit (.int 0)), (.lit (.int 0)), (.lit (.int 0))]), (.call 20 [(.var 0), (.lit (.int 8))])])), (.ret (.call 21 [(.var 0), (.lst [(.tup [(.lit (.int 0)), (.lit (.int 0)), (.lit (.int 0)), (.lit (.int 0)), (.lit (.int 0))]), (.var 2), (.bin .Add (.slice (.var 2) none (some (.lit (.int 4)))) (.tup [(.call 21 [(.var 0), (.lst [(.lit (.int 1)), (.lit (.int 2)), (.lit (.int 3)), (.lit (.int 40)), (.lit (.int 499)), (.lit (.int 500))])])]))])]))] []), (.asgT [3, 4] (.ife (.tval (.cmp .Lt (.var 1) (.lit (.int 4)))) (.tup [(.lit (.int 1)), (.lit (.int 5))]) (.ife (.tval (.cmp .Lt (.var 1) (.lit (.int 7)))) (.tup [(.lit (.int 30)), (.lit (.int 41))]) (.tup [(.lit (.int 149)), (.lit (.int 501))])))), (.asg 5 (.comp (.call 23 [(.var 0), (.var 3)]) (.name 6) .rng [(.lit (.int 4))] [] [6])), (.ifs (.tval (.cmp .Eq (.call 20 [(.var 0), (.lit (.int 4))]) (.lit (.int 0)))) [(.asg 5 (.comp (.bin .Mult (.var 7) (.call 20 [(.var 0), (.lit (.int 2))])) (.name 7) .seq [(.var 5)] [] [7]))] []), (.ret (.call 24 [(.idx (.var 5) (.lit (.int 0))), (.idx (.var 5) (.lit (.int 1))), (.idx (.var 5) (.lit (.int 2))), (.idx (.var 5) (.lit (.int 3))), (.call 20 [(.var 0), (.var 4)])]))]
def b_law_second : List MI.IS := [(.par [2, 3] [(.call 20 [(.var 0), (.lit (.int 8))]), (.call 32 [(.var 0)])]), (.ifs (.tval (.cmp .Lt (.var 2) (.lit (.int 4)))) [(.ret (.var 3))] []), (.asg 4 (.lst [(.var 1), (.call 29 [(.var 1)]), (.call 30 [(.var 1)]), (.call 31 [(.var 1), (.call 20 [(.var 0), (.lit (.int 8))])]), (.call 26 [(.var 3), (.call 29 [(.var 1)])])])), (.ret (.call 21 [(.var 0), (.bin .Add (.var 4) (.lst [(.call 26 [(.var 3), (.call 29 [(.var 1)])])]))]))]
def b_law_is_five_right : List MI.IS := [(.asg 1 (.call 32 [(.var 0)])), (.asg 2 (.call 20 [(.var 0), (.call 21 [(.var 0), (.tup [(.lit (.int 3)), (.lit (.int 40)), (.ife (.tval (.cmp .Lt (.idx (.var 1) (.lit (.int 4))) (.lit (.int 100)))) (.lit (.int 901)) (.lit (.int 3)))])])])), (.asg 3 (.call 25 [(.idx (.var 1) (.lit (.int 0))), (.idx (.var 1) (.lit (.int 1))), (.idx (.var 1) (.lit (.int 2))), (.idx (.var 1) (.lit (.int 3))), (.var 2)])), (.asg 4 (.lst [(.call 13 [(.idx (.var 3) (.lit (.int 0))), (.idx (.var 3) (.lit (.int 1))), (.idx (.var 3) (.lit (.int 2))), (.idx (.var 3) (.lit (.int 3))), (.bin .Add (.idx (.var 1) (.lit (.int 4))) (.var 2))])])), (.expr (.append (.var 4) (.callK 13 [] [(.bin .Add (.idx (.var 1) (.lit (.int 4))) (.var 2)), (.idx (.var 3) (.lit (.int 3))), (.idx (.var 3) (.lit (.int 2))), (.idx (.var 3) (.lit (.int 1))), (.idx (.var 3) (.lit (.int 0)))] [4, 3, 2, 1, 0]))), (.asg 5 (.call 20 [(.var 0), (.lit (.int 4))])), (.asg 6 (.bin .Add (.bin .Add (.slice (.var 3) none (some (.var 5))) (.tup [(.bin .Add (.idx (.var 3) (.var 5)) (.call 21 [(.var 0), (.lst [(.lit (.int 1)), (.neg (.lit (.int 1))), (.lit (.int 2))])]))])) (.slice (.var 3) (some (.bin .Add (.var 5) (.lit (.int 1)))) none))), (.expr (.append (.var 4) (.call 13 [(.idx (.var 6) (.lit (.int 0))), (.idx (.var 6) (.lit (.int 1))), (.idx (.var 6) (.lit (.int 2))), (.idx (.var 6) (.lit (.int 3))), (.bin .Add (.idx (.var 1) (.lit (.int 4))) (.var 2))]))), (.ret (.call 22 [(.bi .tuple1 [(.var 4)]), (.tup [(.var 1), (.var 1), (.call 24 [(.idx (.var 6) (.lit (.int 0))), (.idx (.var 6) (.lit (.int 1))), (.idx (.var 6) (.lit (.int 2))), (.idx (.var 6) (.lit (.int 3))), (.bin .Add (.idx (.var 1) (.lit (.int 4))) (.var 2))])])]))]
def b_law : List MI.IS := [(.asg 1 (.call 19 [(.var 0)])), (.forS (.name 2) .rng [(.lit (.int 4))] [(.asg 3 (.call 32 [(.var 1)])), (.asg 4 (.call 33 [(.var 1), (.var 3)])), (.asg 5 (.call 21 [(.var 1), (.lst [(.lit (.int 0)), (.lit (.int 1)), (.neg (.lit (.int 1))), (.lit (.int 7)), (.lit (.int 8)), (.lit (.int 12)), (.neg (.lit (.int 3))), (.bin .Pow (.lit (.int 10)) (.lit (.int 12))), (.neg (.bin .Pow (.lit (.int 10)) (.lit (.int 12)))), (.bin .Sub (.bin .Pow (.lit (.int 10)) (.lit (.int 12))) (.call 20 [(.var 1), (.lit (.int 9))])), (.bin .Sub (.call 20 [(.var 1), (.lit (.int 100000))]) (.lit (.int 50000)))])])), (.asg 6 (.tup [(.call 14 [(.var 3), (.var 4)]), (.callK 14 [] [(.var 3), (.var 4)] [1, 0]), (.call 15 [(.var 3), (.var 4)]), (.callK 15 [] [(.var 3), (.var 4)] [1, 0])])), (.asg 7 (.bin .Add (.bin .Mult (.tup [(.call 26 [(.var 3), (.var 4)])]) (.lit (.int 2))) (.bin .Mult (.tup [(.call 28 [(.var 3), (.var 4)])]) (.lit (.int 2))))), (.ifs (.tnot (.tval (.call 22 [(.var 6), (.var 7)]))) [(.ret (.lit (.bl false)))] []), (.asg 6 (.tup [(.call 16 [(.var 3)]), (.callK 16 [] [(.var 4)] [0]), (.call 17 [(.var 3)]), (.callK 17 [] [(.var 4)] [0]), (.call 18 [(.var 3), (.var 5)]), (.callK 18 [] [(.var 5), (.var 4)] [1, 0])])), (.asg 7 (.tup [(.call 29 [(.var 3)]), (.call 29 [(.var 4)]), (.call 30 [(.var 3)]), (.call 30 [(.var 4)]), (.call 31 [(.var 3), (.var 5)]), (.call 31 [(.var 4), (.var 5)])])), (.ifs (.tor [(.tnot (.tval (.call 22 [(.var 6), (.var 7)]))), (.tnot (.tval (.call 34 [(.var 1)])))]) [(.ret (.lit (.bl false)))] [])]), (.ret (.call 22 [(.tup [(.call 14 [(.tup [(.lit (.int 1)), (.lit (.int 0)), (.lit (.int 0)), (.lit (.int 0)), (.lit (.int 1))]), (.tup [(.lit (.int 1)), (.lit (.int 0)), (.lit (.int 0)), (.lit (.int 0)), (.lit (.int 1))])]), (.call 13 [(.lit (.int 3)), (.lit (.int 0)), (.lit (.int 1)), (.lit (.int 0)), (.lit (.int 1))])]), (.tup [(.tup [(.lit (.int 0)), (.lit (.int 1)), (.lit (.int 0)), (.neg (.lit (.int 1))), (.lit (.int 0))]), (.tup [(.lit (.int 0)), (.lit (.int 2)), (.lit (.int 0)), (.neg (.lit (.int 1))), (.lit (.int 0))])])]))]
def G : List MI.Fn := ([⟨1, 1, b_is_int⟩, ⟨2, 2, b_is_from⟩, ⟨2, 2, b_is_row⟩, ⟨1, 7, b_is_root_value⟩, ⟨5, 5, b_low⟩, ⟨2, 7, b_times_r⟩, ⟨2, 3, b_plus⟩, ⟨1, 1, b_minus⟩, ⟨2, 12, b_times⟩, ⟨1, 6, b_bar⟩, ⟨2, 8, b_turned_by⟩, ⟨1, 1, b_need_root⟩, ⟨1, 2, b_need_numbers⟩, ⟨5, 5, b_lowest_root⟩, ⟨2, 2, b_root_plus⟩, ⟨2, 2, b_root_times⟩] : List MI.Fn) ++ ([⟨1, 1, b_root_minus⟩, ⟨1, 1, b_conjugate⟩, ⟨2, 2, b_turned⟩, ⟨1, 3, b_law_deck⟩, ⟨2, 4, b_law_draw⟩, ⟨2, 2, b_law_pick⟩, ⟨2, 4, b_law_same⟩, ⟨2, 8, b_law_int⟩, ⟨5, 5, b_law_low⟩, ⟨5, 6, b_law_raised⟩, ⟨2, 5, b_law_plus⟩, ⟨2, 10, b_law_four⟩, ⟨2, 3, b_law_times⟩, ⟨1, 1, b_law_minus⟩, ⟨1, 1, b_law_conjugate⟩, ⟨2, 4, b_law_turned⟩] : List MI.Fn) ++ ([⟨1, 8, b_law_root⟩, ⟨2, 5, b_law_second⟩, ⟨1, 7, b_law_is_five_right⟩, ⟨1, 8, b_law⟩] : List MI.Fn)
def rows : List MI.Row := ([⟨"is_int", s_is_int, ["thing"], ["thing"]⟩, ⟨"is_from", s_is_from, ["thing", "least"], ["thing", "least"]⟩, ⟨"is_row", s_is_row, ["thing", "many"], ["thing", "many"]⟩, ⟨"is_root_value", s_is_root_value, ["thing"], ["thing", "a", "b", "c", "d", "k", "item"]⟩, ⟨"low", s_low, ["a", "b", "c", "d", "k"], ["a", "b", "c", "d", "k"]⟩, ⟨"times_r", s_times_r, ["numbers", "many"], ["numbers", "many", "a", "b", "c", "d", "whole"]⟩, ⟨"plus", s_plus, ["x", "y"], ["x", "y", "more"]⟩, ⟨"minus", s_minus, ["x"], ["x"]⟩, ⟨"times", s_times, ["x", "y"], ["x", "y", "a", "b", "c", "d", "k", "e", "f", "g", "h", "n"]⟩, ⟨"bar", s_bar, ["x"], ["x", "a", "b", "c", "d", "k"]⟩, ⟨"turned_by", s_turned_by, ["x", "j"], ["x", "j", "a", "b", "c", "d", "k", "_"]⟩, ⟨"need_root", s_need_root, ["one"], ["one"]⟩, ⟨"need_numbers", s_need_numbers, ["numbers"], ["numbers", "number"]⟩, ⟨"lowest_root", s_lowest_root, ["a", "b", "c", "d", "k"], ["a", "b", "c", "d", "k"]⟩, ⟨"root_plus", s_root_plus, ["one", "other"], ["one", "other"]⟩, ⟨"root_times", s_root_times, ["one", "other"], ["one", "other"]⟩] : List MI.Row) ++ ([⟨"root_minus", s_root_minus, ["one"], ["one"]⟩, ⟨"conjugate", s_conjugate, ["one"], ["one"]⟩, ⟨"turned", s_turned, ["one", "j"], ["one", "j"]⟩, ⟨"_law_deck", s_law_deck, ["script"], ["script", "mixed", "cell"]⟩, ⟨"_law_draw", s_law_draw, ["deck", "many"], ["deck", "many", "figure", "cell"]⟩, ⟨"_law_pick", s_law_pick, ["deck", "some"], ["deck", "some"]⟩, ⟨"_law_same", s_law_same, ["told", "due"], ["told", "due", "one", "other"]⟩, ⟨"_law_int", s_law_int, ["deck", "most"], ["deck", "most", "way", "figures", "found", "turn", "base", "power"]⟩, ⟨"_law_low", s_law_low, ["a", "b", "c", "d", "k"], ["a", "b", "c", "d", "k"]⟩, ⟨"_law_raised", s_law_raised, ["a", "b", "c", "d", "many"], ["a", "b", "c", "d", "many", "turn"]⟩, ⟨"_law_plus", s_law_plus, ["one", "other"], ["one", "other", "k", "near", "far"]⟩, ⟨"_law_four", s_law_four, ["one", "other"], ["one", "other", "a", "b", "c", "d", "p", "q", "s", "t"]⟩, ⟨"_law_times", s_law_times, ["one", "other"], ["one", "other", "found"]⟩, ⟨"_law_minus", s_law_minus, ["one"], ["one"]⟩, ⟨"_law_conjugate", s_law_conjugate, ["one"], ["one"]⟩, ⟨"_law_turned", s_law_turned, ["one", "j"], ["one", "j", "found", "turn"]⟩] : List MI.Row) ++ ([⟨"_law_root", s_law_root, ["deck"], ["deck", "way", "one", "most", "far", "numbers", "turn", "x"]⟩, ⟨"_law_second", s_law_second, ["deck", "one"], ["deck", "one", "way", "other", "some"]⟩, ⟨"_law_is_five_right", s_law_is_five_right, ["deck"], ["deck", "one", "many", "far", "told", "at", "near"]⟩, ⟨"law", s_law, ["script"], ["script", "deck", "turn", "one", "other", "j", "told", "due"]⟩] : List MI.Row)
theorem G_eq : G = rows.map (MI.fnOf T rows) := by kernel_rfl
theorem rows_ok : rows.all MI.rowC = true := by decide +kernel
section
variable {K : PySem.W.Frag} {mg : Str → Option Value}
theorem t_tys (E : Env0 K mg) : ∀ x n, T.tys.lookup x = some n → mg x = none ∧ bootBuiltins x = some (.type n) ∧ x ≠ "__name__" ∧ (x == ("__debug__" : Str)) = false := MI.lookup_all (by
  intro p hp
  simp only [T, List.mem_cons, List.not_mem_nil, or_false] at hp
  rcases hp with rfl | rfl | rfl | rfl | rfl | rfl
  · exact ⟨E.free 37 _ rfl, by decide +kernel, by decide, by decide⟩
  · exact ⟨E.free 38 _ rfl, by decide +kernel, by decide, by decide⟩
  · exact ⟨E.free 39 _ rfl, by decide +kernel, by decide, by decide⟩
  · exact ⟨E.free 42 _ rfl, by decide +kernel, by decide, by decide⟩
  · exact ⟨E.free 46 _ rfl, by decide +kernel, by decide, by decide⟩
  · exact ⟨E.free 47 _ rfl, by decide +kernel, by decide, by decide⟩)
theorem t_bis (E : Env0 K mg) : ∀ x b, T.bis.lookup x = some b → x = (MI.biVal b).1 ∧ mg x = none ∧ bootBuiltins x = some (MI.biVal b).2 ∧ x ≠ "__name__" ∧ (x == ("__debug__" : Str)) = false := MI.lookup_all (by
  intro p hp
  simp only [T, List.mem_cons, List.not_mem_nil, or_false] at hp
  rcases hp with rfl | rfl | rfl | rfl | rfl | rfl | rfl | rfl | rfl
  · exact ⟨rfl, E.free 36 _ rfl, by decide +kernel, by decide, by decide⟩
  · exact ⟨rfl, E.free 39 _ rfl, by decide +kernel, by decide, by decide⟩
  · exact ⟨rfl, E.free 40 _ rfl, by decide +kernel, by decide, by decide⟩
  · exact ⟨rfl, E.free 41 _ rfl, by decide +kernel, by decide, by decide⟩
  · exact ⟨rfl, E.free 42 _ rfl, by decide +kernel, by decide, by decide⟩
  · exact ⟨rfl, E.free 43 _ rfl, by decide +kernel, by decide, by decide⟩
  · exact ⟨rfl, E.free 44 _ rfl, by decide +kernel, by decide, by decide⟩
  · exact ⟨rfl, E.free 47 _ rfl, by decide +kernel, by decide, by decide⟩
  · exact ⟨rfl, E.free 48 _ rfl, by decide +kernel, by decide, by decide⟩)
theorem t_csts (E : Env0 K mg) : ∀ x z, T.csts.lookup x = some z → (∃ t, mg x = some (.int z t)) ∧ (x == ("__debug__" : Str)) = false := MI.lookup_all (by
  intro p hp
  simp only [T, List.mem_cons, List.not_mem_nil, or_false] at hp
  subst hp
  · exact ⟨E.int 49 _ _ rfl, by decide⟩)
theorem t_defs (E : Env0 K mg) : ∀ (j : Nat) r, rows[j]? = some r → ∃ f fd, FunD K r.x r.x (defArgs r.st) (defBody r.st) (defScope r.st) [] [] f fd ∧ mg r.x = some (.ref f) ∧ Binds K fd r.ps [] ∧ ∀ ks pm, (j, ks, pm) ∈ T.KF → KBn K fd r.ps (r.ps.length - ks.length) ks (MI.gperm .none pm) (MI.gperm .non pm)
  | 0, r, h => by
    have e : r = ⟨"is_int", s_is_int, ["thing"], ["thing"]⟩ := (Option.some.inj h).symm
    subst e
    obtain ⟨fd, F⟩ := E.def_ 0 (x := "is_int") (st := s_is_int)
    refine ⟨_, fd, F, E.glo 0 _ rfl, L2.FunD.bindsN (ps := ["thing"]) F fun _ _ _ _ _ _ us hl => match us, hl with | [_], _ => rfl, fun ks pm h => ?_⟩
    simp only [T, List.mem_cons, List.not_mem_nil, or_false, Prod.mk.injEq] at h
    exact absurd h (by simp)
  | 1, r, h => by
    have e : r = ⟨"is_from", s_is_from, ["thing", "least"], ["thing", "least"]⟩ := (Option.some.inj h).symm
    subst e
    obtain ⟨fd, F⟩ := E.def_ 1 (x := "is_from") (st := s_is_from)
    refine ⟨_, fd, F, E.glo 1 _ rfl, L2.FunD.bindsN (ps := ["thing", "least"]) F fun _ _ _ _ _ _ us hl => match us, hl with | [_, _], _ => rfl, fun ks pm h => ?_⟩
    simp only [T, List.mem_cons, List.not_mem_nil, or_false, Prod.mk.injEq] at h
    exact absurd h (by simp)
  | 2, r, h => by
    have e : r = ⟨"is_row", s_is_row, ["thing", "many"], ["thing", "many"]⟩ := (Option.some.inj h).symm
    subst e
    obtain ⟨fd, F⟩ := E.def_ 2 (x := "is_row") (st := s_is_row)
    refine ⟨_, fd, F, E.glo 2 _ rfl, L2.FunD.bindsN (ps := ["thing", "many"]) F fun _ _ _ _ _ _ us hl => match us, hl with | [_, _], _ => rfl, fun ks pm h => ?_⟩
    simp only [T, List.mem_cons, List.not_mem_nil, or_false, Prod.mk.injEq] at h
    exact absurd h (by simp)
  | 3, r, h => by
    have e : r = ⟨"is_root_value", s_is_root_value, ["thing"], ["thing", "a", "b", "c", "d", "k", "item"]⟩ := (Option.some.inj h).symm
    subst e
    obtain ⟨fd, F⟩ := E.def_ 3 (x := "is_root_value") (st := s_is_root_value)
    refine ⟨_, fd, F, E.glo 3 _ rfl, L2.FunD.bindsN (ps := ["thing"]) F fun _ _ _ _ _ _ us hl => match us, hl with | [_], _ => rfl, fun ks pm h => ?_⟩
    simp only [T, List.mem_cons, List.not_mem_nil, or_false, Prod.mk.injEq] at h
    exact absurd h (by simp)
  | 4, r, h => by
    have e : r = ⟨"low", s_low, ["a", "b", "c", "d", "k"], ["a", "b", "c", "d", "k"]⟩ := (Option.some.inj h).symm
    subst e
    obtain ⟨fd, F⟩ := E.def_ 4 (x := "low") (st := s_low)
    refine ⟨_, fd, F, E.glo 4 _ rfl, L2.FunD.bindsN (ps := ["a", "b", "c", "d", "k"]) F fun _ _ _ _ _ _ us hl => match us, hl with | [_, _, _, _, _], _ => rfl, fun ks pm h => ?_⟩
    simp only [T, List.mem_cons, List.not_mem_nil, or_false, Prod.mk.injEq] at h
    exact absurd h (by simp)
  | 5, r, h => by
    have e : r = ⟨"times_r", s_times_r, ["numbers", "many"], ["numbers", "many", "a", "b", "c", "d", "whole"]⟩ := (Option.some.inj h).symm
    subst e
    obtain ⟨fd, F⟩ := E.def_ 5 (x := "times_r") (st := s_times_r)
    refine ⟨_, fd, F, E.glo 5 _ rfl, L2.FunD.bindsN (ps := ["numbers", "many"]) F fun _ _ _ _ _ _ us hl => match us, hl with | [_, _], _ => rfl, fun ks pm h => ?_⟩
    simp only [T, List.mem_cons, List.not_mem_nil, or_false, Prod.mk.injEq] at h
    exact absurd h (by simp)
  | 6, r, h => by
    have e : r = ⟨"plus", s_plus, ["x", "y"], ["x", "y", "more"]⟩ := (Option.some.inj h).symm
    subst e
    obtain ⟨fd, F⟩ := E.def_ 6 (x := "plus") (st := s_plus)
    refine ⟨_, fd, F, E.glo 6 _ rfl, L2.FunD.bindsN (ps := ["x", "y"]) F fun _ _ _ _ _ _ us hl => match us, hl with | [_, _], _ => rfl, fun ks pm h => ?_⟩
    simp only [T, List.mem_cons, List.not_mem_nil, or_false, Prod.mk.injEq] at h
    exact absurd h (by simp)
  | 7, r, h => by
    have e : r = ⟨"minus", s_minus, ["x"], ["x"]⟩ := (Option.some.inj h).symm
    subst e
    obtain ⟨fd, F⟩ := E.def_ 7 (x := "minus") (st := s_minus)
    refine ⟨_, fd, F, E.glo 7 _ rfl, L2.FunD.bindsN (ps := ["x"]) F fun _ _ _ _ _ _ us hl => match us, hl with | [_], _ => rfl, fun ks pm h => ?_⟩
    simp only [T, List.mem_cons, List.not_mem_nil, or_false, Prod.mk.injEq] at h
    exact absurd h (by simp)
  | 8, r, h => by
    have e : r = ⟨"times", s_times, ["x", "y"], ["x", "y", "a", "b", "c", "d", "k", "e", "f", "g", "h", "n"]⟩ := (Option.some.inj h).symm
    subst e
    obtain ⟨fd, F⟩ := E.def_ 8 (x := "times") (st := s_times)
    refine ⟨_, fd, F, E.glo 8 _ rfl, L2.FunD.bindsN (ps := ["x", "y"]) F fun _ _ _ _ _ _ us hl => match us, hl with | [_, _], _ => rfl, fun ks pm h => ?_⟩
    simp only [T, List.mem_cons, List.not_mem_nil, or_false, Prod.mk.injEq] at h
    exact absurd h (by simp)
  | 9, r, h => by
    have e : r = ⟨"bar", s_bar, ["x"], ["x", "a", "b", "c", "d", "k"]⟩ := (Option.some.inj h).symm
    subst e
    obtain ⟨fd, F⟩ := E.def_ 9 (x := "bar") (st := s_bar)
    refine ⟨_, fd, F, E.glo 9 _ rfl, L2.FunD.bindsN (ps := ["x"]) F fun _ _ _ _ _ _ us hl => match us, hl with | [_], _ => rfl, fun ks pm h => ?_⟩
    simp only [T, List.mem_cons, List.not_mem_nil, or_false, Prod.mk.injEq] at h
    exact absurd h (by simp)
  | 10, r, h => by
    have e : r = ⟨"turned_by", s_turned_by, ["x", "j"], ["x", "j", "a", "b", "c", "d", "k", "_"]⟩ := (Option.some.inj h).symm
    subst e
    obtain ⟨fd, F⟩ := E.def_ 10 (x := "turned_by") (st := s_turned_by)
    refine ⟨_, fd, F, E.glo 10 _ rfl, L2.FunD.bindsN (ps := ["x", "j"]) F fun _ _ _ _ _ _ us hl => match us, hl with | [_, _], _ => rfl, fun ks pm h => ?_⟩
    simp only [T, List.mem_cons, List.not_mem_nil, or_false, Prod.mk.injEq] at h
    exact absurd h (by simp)
  | 11, r, h => by
    have e : r = ⟨"need_root", s_need_root, ["one"], ["one"]⟩ := (Option.some.inj h).symm
    subst e
    obtain ⟨fd, F⟩ := E.def_ 11 (x := "need_root") (st := s_need_root)
    refine ⟨_, fd, F, E.glo 11 _ rfl, L2.FunD.bindsN (ps := ["one"]) F fun _ _ _ _ _ _ us hl => match us, hl with | [_], _ => rfl, fun ks pm h => ?_⟩
    simp only [T, List.mem_cons, List.not_mem_nil, or_false, Prod.mk.injEq] at h
    exact absurd h (by simp)
  | 12, r, h => by
    have e : r = ⟨"need_numbers", s_need_numbers, ["numbers"], ["numbers", "number"]⟩ := (Option.some.inj h).symm
    subst e
    obtain ⟨fd, F⟩ := E.def_ 12 (x := "need_numbers") (st := s_need_numbers)
    refine ⟨_, fd, F, E.glo 12 _ rfl, L2.FunD.bindsN (ps := ["numbers"]) F fun _ _ _ _ _ _ us hl => match us, hl with | [_], _ => rfl, fun ks pm h => ?_⟩
    simp only [T, List.mem_cons, List.not_mem_nil, or_false, Prod.mk.injEq] at h
    exact absurd h (by simp)
  | 13, r, h => by
    have e : r = ⟨"lowest_root", s_lowest_root, ["a", "b", "c", "d", "k"], ["a", "b", "c", "d", "k"]⟩ := (Option.some.inj h).symm
    subst e
    obtain ⟨fd, F⟩ := E.def_ 13 (x := "lowest_root") (st := s_lowest_root)
    refine ⟨_, fd, F, E.glo 13 _ rfl, L2.FunD.bindsN (ps := ["a", "b", "c", "d", "k"]) F fun _ _ _ _ _ _ us hl => match us, hl with | [_, _, _, _, _], _ => rfl, fun ks pm h => ?_⟩
    simp only [T, List.mem_cons, List.not_mem_nil, or_false, Prod.mk.injEq] at h
    rcases h with ⟨h0, rfl, rfl⟩ | ⟨h0, rfl, rfl⟩ | ⟨h0, rfl, rfl⟩ | ⟨h0, rfl, rfl⟩ | ⟨h0, rfl, rfl⟩ | ⟨h0, rfl, rfl⟩
    · exact MI.kbn_of F fun _ _ _ _ _ _ us ws h1 h2 => match us, ws, h1, h2 with | [], [_, _, _, _, _], _, _ => rfl
    · exact absurd h0 (by decide)
    · exact absurd h0 (by decide)
    · exact absurd h0 (by decide)
    · exact absurd h0 (by decide)
    · exact absurd h0 (by decide)
  | 14, r, h => by
    have e : r = ⟨"root_plus", s_root_plus, ["one", "other"], ["one", "other"]⟩ := (Option.some.inj h).symm
    subst e
    obtain ⟨fd, F⟩ := E.def_ 14 (x := "root_plus") (st := s_root_plus)
    refine ⟨_, fd, F, E.glo 14 _ rfl, L2.FunD.bindsN (ps := ["one", "other"]) F fun _ _ _ _ _ _ us hl => match us, hl with | [_, _], _ => rfl, fun ks pm h => ?_⟩
    simp only [T, List.mem_cons, List.not_mem_nil, or_false, Prod.mk.injEq] at h
    rcases h with ⟨h0, rfl, rfl⟩ | ⟨h0, rfl, rfl⟩ | ⟨h0, rfl, rfl⟩ | ⟨h0, rfl, rfl⟩ | ⟨h0, rfl, rfl⟩ | ⟨h0, rfl, rfl⟩
    · exact absurd h0 (by decide)
    · exact MI.kbn_of F fun _ _ _ _ _ _ us ws h1 h2 => match us, ws, h1, h2 with | [], [_, _], _, _ => rfl
    · exact absurd h0 (by decide)
    · exact absurd h0 (by decide)
    · exact absurd h0 (by decide)
    · exact absurd h0 (by decide)
  | 15, r, h => by
    have e : r = ⟨"root_times", s_root_times, ["one", "other"], ["one", "other"]⟩ := (Option.some.inj h).symm
    subst e
    obtain ⟨fd, F⟩ := E.def_ 15 (x := "root_times") (st := s_root_times)
    refine ⟨_, fd, F, E.glo 15 _ rfl, L2.FunD.bindsN (ps := ["one", "other"]) F fun _ _ _ _ _ _ us hl => match us, hl with | [_, _], _ => rfl, fun ks pm h => ?_⟩
    simp only [T, List.mem_cons, List.not_mem_nil, or_false, Prod.mk.injEq] at h
    rcases h with ⟨h0, rfl, rfl⟩ | ⟨h0, rfl, rfl⟩ | ⟨h0, rfl, rfl⟩ | ⟨h0, rfl, rfl⟩ | ⟨h0, rfl, rfl⟩ | ⟨h0, rfl, rfl⟩
    · exact absurd h0 (by decide)
    · exact absurd h0 (by decide)
    · exact MI.kbn_of F fun _ _ _ _ _ _ us ws h1 h2 => match us, ws, h1, h2 with | [], [_, _], _, _ => rfl
    · exact absurd h0 (by decide)
    · exact absurd h0 (by decide)
    · exact absurd h0 (by decide)
  | 16, r, h => by
    have e : r = ⟨"root_minus", s_root_minus, ["one"], ["one"]⟩ := (Option.some.inj h).symm
    subst e
    obtain ⟨fd, F⟩ := E.def_ 16 (x := "root_minus") (st := s_root_minus)
    refine ⟨_, fd, F, E.glo 16 _ rfl, L2.FunD.bindsN (ps := ["one"]) F fun _ _ _ _ _ _ us hl => match us, hl with | [_], _ => rfl, fun ks pm h => ?_⟩
    simp only [T, List.mem_cons, List.not_mem_nil, or_false, Prod.mk.injEq] at h
    rcases h with ⟨h0, rfl, rfl⟩ | ⟨h0, rfl, rfl⟩ | ⟨h0, rfl, rfl⟩ | ⟨h0, rfl, rfl⟩ | ⟨h0, rfl, rfl⟩ | ⟨h0, rfl, rfl⟩
    · exact absurd h0 (by decide)
    · exact absurd h0 (by decide)
    · exact absurd h0 (by decide)
    · exact MI.kbn_of F fun _ _ _ _ _ _ us ws h1 h2 => match us, ws, h1, h2 with | [], [_], _, _ => rfl
    · exact absurd h0 (by decide)
    · exact absurd h0 (by decide)
  | 17, r, h => by
    have e : r = ⟨"conjugate", s_conjugate, ["one"], ["one"]⟩ := (Option.some.inj h).symm
    subst e
    obtain ⟨fd, F⟩ := E.def_ 17 (x := "conjugate") (st := s_conjugate)
    refine ⟨_, fd, F, E.glo 17 _ rfl, L2.FunD.bindsN (ps := ["one"]) F fun _ _ _ _ _ _ us hl => match us, hl with | [_], _ => rfl, fun ks pm h => ?_⟩
    simp only [T, List.mem_cons, List.not_mem_nil, or_false, Prod.mk.injEq] at h
    rcases h with ⟨h0, rfl, rfl⟩ | ⟨h0, rfl, rfl⟩ | ⟨h0, rfl, rfl⟩ | ⟨h0, rfl, rfl⟩ | ⟨h0, rfl, rfl⟩ | ⟨h0, rfl, rfl⟩
    · exact absurd h0 (by decide)
    · exact absurd h0 (by decide)
    · exact absurd h0 (by decide)
    · exact absurd h0 (by decide)
    · exact MI.kbn_of F fun _ _ _ _ _ _ us ws h1 h2 => match us, ws, h1, h2 with | [], [_], _, _ => rfl
    · exact absurd h0 (by decide)
  | 18, r, h => by
    have e : r = ⟨"turned", s_turned, ["one", "j"], ["one", "j"]⟩ := (Option.some.inj h).symm
    subst e
    obtain ⟨fd, F⟩ := E.def_ 18 (x := "turned") (st := s_turned)
    refine ⟨_, fd, F, E.glo 18 _ rfl, L2.FunD.bindsN (ps := ["one", "j"]) F fun _ _ _ _ _ _ us hl => match us, hl with | [_, _], _ => rfl, fun ks pm h => ?_⟩
    simp only [T, List.mem_cons, List.not_mem_nil, or_false, Prod.mk.injEq] at h
    rcases h with ⟨h0, rfl, rfl⟩ | ⟨h0, rfl, rfl⟩ | ⟨h0, rfl, rfl⟩ | ⟨h0, rfl, rfl⟩ | ⟨h0, rfl, rfl⟩ | ⟨h0, rfl, rfl⟩
    · exact absurd h0 (by decide)
    · exact absurd h0 (by decide)
    · exact absurd h0 (by decide)
    · exact absurd h0 (by decide)
    · exact absurd h0 (by decide)
    · exact MI.kbn_of F fun _ _ _ _ _ _ us ws h1 h2 => match us, ws, h1, h2 with | [], [_, _], _, _ => rfl
  | 19, r, h => by
    have e : r = ⟨"_law_deck", s_law_deck, ["script"], ["script", "mixed", "cell"]⟩ := (Option.some.inj h).symm
    subst e
    obtain ⟨fd, F⟩ := E.def_ 19 (x := "_law_deck") (st := s_law_deck)
    refine ⟨_, fd, F, E.glo 19 _ rfl, L2.FunD.bindsN (ps := ["script"]) F fun _ _ _ _ _ _ us hl => match us, hl with | [_], _ => rfl, fun ks pm h => ?_⟩
    simp only [T, List.mem_cons, List.not_mem_nil, or_false, Prod.mk.injEq] at h
    exact absurd h (by simp)
  | 20, r, h => by
    have e : r = ⟨"_law_draw", s_law_draw, ["deck", "many"], ["deck", "many", "figure", "cell"]⟩ := (Option.some.inj h).symm
    subst e
    obtain ⟨fd, F⟩ := E.def_ 20 (x := "_law_draw") (st := s_law_draw)
    refine ⟨_, fd, F, E.glo 20 _ rfl, L2.FunD.bindsN (ps := ["deck", "many"]) F fun _ _ _ _ _ _ us hl => match us, hl with | [_, _], _ => rfl, fun ks pm h => ?_⟩
    simp only [T, List.mem_cons, List.not_mem_nil, or_false, Prod.mk.injEq] at h
    exact absurd h (by simp)
  | 21, r, h => by
    have e : r = ⟨"_law_pick", s_law_pick, ["deck", "some"], ["deck", "some"]⟩ := (Option.some.inj h).symm
    subst e
    obtain ⟨fd, F⟩ := E.def_ 21 (x := "_law_pick") (st := s_law_pick)
    refine ⟨_, fd, F, E.glo 21 _ rfl, L2.FunD.bindsN (ps := ["deck", "some"]) F fun _ _ _ _ _ _ us hl => match us, hl with | [_, _], _ => rfl, fun ks pm h => ?_⟩
    simp only [T, List.mem_cons, List.not_mem_nil, or_false, Prod.mk.injEq] at h
    exact absurd h (by simp)
  | 22, r, h => by
    have e : r = ⟨"_law_same", s_law_same, ["told", "due"], ["told", "due", "one", "other"]⟩ := (Option.some.inj h).symm
    subst e
    obtain ⟨fd, F⟩ := E.def_ 22 (x := "_law_same") (st := s_law_same)
    refine ⟨_, fd, F, E.glo 22 _ rfl, L2.FunD.bindsN (ps := ["told", "due"]) F fun _ _ _ _ _ _ us hl => match us, hl with | [_, _], _ => rfl, fun ks pm h => ?_⟩
    simp only [T, List.mem_cons, List.not_mem_nil, or_false, Prod.mk.injEq] at h
    exact absurd h (by simp)
  | 23, r, h => by
    have e : r = ⟨"_law_int", s_law_int, ["deck", "most"], ["deck", "most", "way", "figures", "found", "turn", "base", "power"]⟩ := (Option.some.inj h).symm
    subst e
    obtain ⟨fd, F⟩ := E.def_ 23 (x := "_law_int") (st := s_law_int)
    refine ⟨_, fd, F, E.glo 23 _ rfl, L2.FunD.bindsN (ps := ["deck", "most"]) F fun _ _ _ _ _ _ us hl => match us, hl with | [_, _], _ => rfl, fun ks pm h => ?_⟩
    simp only [T, List.mem_cons, List.not_mem_nil, or_false, Prod.mk.injEq] at h
    exact absurd h (by simp)
  | 24, r, h => by
    have e : r = ⟨"_law_low", s_law_low, ["a", "b", "c", "d", "k"], ["a", "b", "c", "d", "k"]⟩ := (Option.some.inj h).symm
    subst e
    obtain ⟨fd, F⟩ := E.def_ 24 (x := "_law_low") (st := s_law_low)
    refine ⟨_, fd, F, E.glo 24 _ rfl, L2.FunD.bindsN (ps := ["a", "b", "c", "d", "k"]) F fun _ _ _ _ _ _ us hl => match us, hl with | [_, _, _, _, _], _ => rfl, fun ks pm h => ?_⟩
    simp only [T, List.mem_cons, List.not_mem_nil, or_false, Prod.mk.injEq] at h
    exact absurd h (by simp)
  | 25, r, h => by
    have e : r = ⟨"_law_raised", s_law_raised, ["a", "b", "c", "d", "many"], ["a", "b", "c", "d", "many", "turn"]⟩ := (Option.some.inj h).symm
    subst e
    obtain ⟨fd, F⟩ := E.def_ 25 (x := "_law_raised") (st := s_law_raised)
    refine ⟨_, fd, F, E.glo 25 _ rfl, L2.FunD.bindsN (ps := ["a", "b", "c", "d", "many"]) F fun _ _ _ _ _ _ us hl => match us, hl with | [_, _, _, _, _], _ => rfl, fun ks pm h => ?_⟩
    simp only [T, List.mem_cons, List.not_mem_nil, or_false, Prod.mk.injEq] at h
    exact absurd h (by simp)
  | 26, r, h => by
    have e : r = ⟨"_law_plus", s_law_plus, ["one", "other"], ["one", "other", "k", "near", "far"]⟩ := (Option.some.inj h).symm
    subst e
    obtain ⟨fd, F⟩ := E.def_ 26 (x := "_law_plus") (st := s_law_plus)
    refine ⟨_, fd, F, E.glo 26 _ rfl, L2.FunD.bindsN (ps := ["one", "other"]) F fun _ _ _ _ _ _ us hl => match us, hl with | [_, _], _ => rfl, fun ks pm h => ?_⟩
    simp only [T, List.mem_cons, List.not_mem_nil, or_false, Prod.mk.injEq] at h
    exact absurd h (by simp)
  | 27, r, h => by
    have e : r = ⟨"_law_four", s_law_four, ["one", "other"], ["one", "other", "a", "b", "c", "d", "p", "q", "s", "t"]⟩ := (Option.some.inj h).symm
    subst e
    obtain ⟨fd, F⟩ := E.def_ 27 (x := "_law_four") (st := s_law_four)
    refine ⟨_, fd, F, E.glo 27 _ rfl, L2.FunD.bindsN (ps := ["one", "other"]) F fun _ _ _ _ _ _ us hl => match us, hl with | [_, _], _ => rfl, fun ks pm h => ?_⟩
    simp only [T, List.mem_cons, List.not_mem_nil, or_false, Prod.mk.injEq] at h
    exact absurd h (by simp)
  | 28, r, h => by
    have e : r = ⟨"_law_times", s_law_times, ["one", "other"], ["one", "other", "found"]⟩ := (Option.some.inj h).symm
    subst e
    obtain ⟨fd, F⟩ := E.def_ 28 (x := "_law_times") (st := s_law_times)
    refine ⟨_, fd, F, E.glo 28 _ rfl, L2.FunD.bindsN (ps := ["one", "other"]) F fun _ _ _ _ _ _ us hl => match us, hl with | [_, _], _ => rfl, fun ks pm h => ?_⟩
    simp only [T, List.mem_cons, List.not_mem_nil, or_false, Prod.mk.injEq] at h
    exact absurd h (by simp)
  | 29, r, h => by
    have e : r = ⟨"_law_minus", s_law_minus, ["one"], ["one"]⟩ := (Option.some.inj h).symm
    subst e
    obtain ⟨fd, F⟩ := E.def_ 29 (x := "_law_minus") (st := s_law_minus)
    refine ⟨_, fd, F, E.glo 29 _ rfl, L2.FunD.bindsN (ps := ["one"]) F fun _ _ _ _ _ _ us hl => match us, hl with | [_], _ => rfl, fun ks pm h => ?_⟩
    simp only [T, List.mem_cons, List.not_mem_nil, or_false, Prod.mk.injEq] at h
    exact absurd h (by simp)
  | 30, r, h => by
    have e : r = ⟨"_law_conjugate", s_law_conjugate, ["one"], ["one"]⟩ := (Option.some.inj h).symm
    subst e
    obtain ⟨fd, F⟩ := E.def_ 30 (x := "_law_conjugate") (st := s_law_conjugate)
    refine ⟨_, fd, F, E.glo 30 _ rfl, L2.FunD.bindsN (ps := ["one"]) F fun _ _ _ _ _ _ us hl => match us, hl with | [_], _ => rfl, fun ks pm h => ?_⟩
    simp only [T, List.mem_cons, List.not_mem_nil, or_false, Prod.mk.injEq] at h
    exact absurd h (by simp)
  | 31, r, h => by
    have e : r = ⟨"_law_turned", s_law_turned, ["one", "j"], ["one", "j", "found", "turn"]⟩ := (Option.some.inj h).symm
    subst e
    obtain ⟨fd, F⟩ := E.def_ 31 (x := "_law_turned") (st := s_law_turned)
    refine ⟨_, fd, F, E.glo 31 _ rfl, L2.FunD.bindsN (ps := ["one", "j"]) F fun _ _ _ _ _ _ us hl => match us, hl with | [_, _], _ => rfl, fun ks pm h => ?_⟩
    simp only [T, List.mem_cons, List.not_mem_nil, or_false, Prod.mk.injEq] at h
    exact absurd h (by simp)
  | 32, r, h => by
    have e : r = ⟨"_law_root", s_law_root, ["deck"], ["deck", "way", "one", "most", "far", "numbers", "turn", "x"]⟩ := (Option.some.inj h).symm
    subst e
    obtain ⟨fd, F⟩ := E.def_ 32 (x := "_law_root") (st := s_law_root)
    refine ⟨_, fd, F, E.glo 32 _ rfl, L2.FunD.bindsN (ps := ["deck"]) F fun _ _ _ _ _ _ us hl => match us, hl with | [_], _ => rfl, fun ks pm h => ?_⟩
    simp only [T, List.mem_cons, List.not_mem_nil, or_false, Prod.mk.injEq] at h
    exact absurd h (by simp)
  | 33, r, h => by
    have e : r = ⟨"_law_second", s_law_second, ["deck", "one"], ["deck", "one", "way", "other", "some"]⟩ := (Option.some.inj h).symm
    subst e
    obtain ⟨fd, F⟩ := E.def_ 33 (x := "_law_second") (st := s_law_second)
    refine ⟨_, fd, F, E.glo 33 _ rfl, L2.FunD.bindsN (ps := ["deck", "one"]) F fun _ _ _ _ _ _ us hl => match us, hl with | [_, _], _ => rfl, fun ks pm h => ?_⟩
    simp only [T, List.mem_cons, List.not_mem_nil, or_false, Prod.mk.injEq] at h
    exact absurd h (by simp)
  | 34, r, h => by
    have e : r = ⟨"_law_is_five_right", s_law_is_five_right, ["deck"], ["deck", "one", "many", "far", "told", "at", "near"]⟩ := (Option.some.inj h).symm
    subst e
    obtain ⟨fd, F⟩ := E.def_ 34 (x := "_law_is_five_right") (st := s_law_is_five_right)
    refine ⟨_, fd, F, E.glo 34 _ rfl, L2.FunD.bindsN (ps := ["deck"]) F fun _ _ _ _ _ _ us hl => match us, hl with | [_], _ => rfl, fun ks pm h => ?_⟩
    simp only [T, List.mem_cons, List.not_mem_nil, or_false, Prod.mk.injEq] at h
    exact absurd h (by simp)
  | 35, r, h => by
    have e : r = ⟨"law", s_law, ["script"], ["script", "deck", "turn", "one", "other", "j", "told", "due"]⟩ := (Option.some.inj h).symm
    subst e
    obtain ⟨fd, F⟩ := E.def_ 35 (x := "law") (st := s_law)
    refine ⟨_, fd, F, E.glo 35 _ rfl, L2.FunD.bindsN (ps := ["script"]) F fun _ _ _ _ _ _ us hl => match us, hl with | [_], _ => rfl, fun ks pm h => ?_⟩
    simp only [T, List.mem_cons, List.not_mem_nil, or_false, Prod.mk.injEq] at h
    exact absurd h (by simp)
  | j + 36, r, h => by
    exact absurd (show (none : Option MI.Row) = some r from h) (by simp)
theorem t_top (E : Env0 K mg) : MI.Top K mg T rows := ⟨MI.rows_ok rows_ok, t_tys E, t_csts E, t_bis E, t_defs E⟩
end
/-- the law, over the inner form -/
theorem law_of (d : Nat) (hr : L2.Room d PySem.callerA) (h : ∀ ns : List Int, ns.length ≤ 63 → MI.GC G d 35 [.frz (ns.map .int)] [] fun v _ => v = .bl true) : PySem.Challenge.rw_wavewright_k01_whole_roots_by_polynomial.Holds :=
  holds_of d hr fun w K mg base E _ _ fd F => MI.law_ok (t_top E) G_eq (r := ⟨"law", s_law, ["script"], ["script", "deck", "turn", "one", "other", "j", "told", "due"]⟩) (j := 35) rfl F rfl fun ns hl => by
    obtain ⟨n, v, s, h1, rfl⟩ := h ns hl
    exact ⟨n, s, h1⟩
section
open MI
theorem c_is_int {d : Nat} {st : MI.Store} {Q : MI.PV → MI.Store → Prop} {v0 : MI.PV} (h : MI.GSs G d [(.ret (.and [(.bi .isinst [(.var 0), (.ty "int")]), (.not (.bi .isinst [(.var 0), (.ty "bool")]))]))] [some v0] st (MI.GF Q)) : MI.GC G (d + 1) 0 [v0] st Q := MI.gc_def (fn := ⟨1, 1, b_is_int⟩) rfl rfl h
theorem c_is_from {d : Nat} {st : MI.Store} {Q : MI.PV → MI.Store → Prop} {v0 v1 : MI.PV} (h : MI.GSs G d [(.ret (.and [(.call 0 [(.var 0)]), (.cmp .GtE (.var 0) (.var 1))]))] [some v0, some v1] st (MI.GF Q)) : MI.GC G (d + 1) 1 [v0, v1] st Q := MI.gc_def (fn := ⟨2, 2, b_is_from⟩) rfl rfl h
theorem c_is_row {d : Nat} {st : MI.Store} {Q : MI.PV → MI.Store → Prop} {v0 v1 : MI.PV} (h : MI.GSs G d [(.ret (.and [(.bi .isinst [(.var 0), (.ty "tuple")]), (.cmp .Eq (.bi .len [(.var 0)]) (.var 1))]))] [some v0, some v1] st (MI.GF Q)) : MI.GC G (d + 1) 2 [v0, v1] st Q := MI.gc_def (fn := ⟨2, 2, b_is_row⟩) rfl rfl h
theorem c_is_root_value {d : Nat} {st : MI.Store} {Q : MI.PV → MI.Store → Prop} {v0 : MI.PV} (h : MI.GSs G d [(.ifs (.tor [(.tnot (.tval (.call 2 [(.var 0), (.lit (.int 5))]))), (.tnot (.tval (.bi .all [(.comp (.call 0 [(.var 6)]) (.name 6) .seq [(.var 0)] [] [6])]))), (.tnot (.tval (.call 1 [(.idx (.var 0) (.lit (.int 4))), (.lit (.int 0))])))]) [(.ret (.lit (.bl false)))] []), (.asgT [1, 2, 3, 4, 5] (.var 0)), (.ret (.or [(.cmp .Eq (.var 5) (.lit (.int 0))), (.cmp .Eq (.bin .Mod (.bin .Sub (.var 1) (.var 3)) (.lit (.int 2))) (.lit (.int 1))), (.cmp .Eq (.bin .Mod (.bin .Sub (.var 2) (.var 4)) (.lit (.int 2))) (.lit (.int 1)))]))] [some v0, none, none, none, none, none, none] st (MI.GF Q)) : MI.GC G (d + 1) 3 [v0] st Q := MI.gc_def (fn := ⟨1, 7, b_is_root_value⟩) rfl rfl h
theorem c_low {d : Nat} {st : MI.Store} {Q : MI.PV → MI.Store → Prop} {v0 v1 v2 v3 v4 : MI.PV} (h : MI.GSs G d [(.whl (.tand [(.tval (.cmp .Gt (.var 4) (.lit (.int 0)))), (.tval (.cmp .Eq (.bin .Mod (.bin .Sub (.var 0) (.var 2)) (.lit (.int 2))) (.lit (.int 0)))), (.tval (.cmp .Eq (.bin .Mod (.bin .Sub (.var 1) (.var 3)) (.lit (.int 2))) (.lit (.int 0))))]) [(.par [0, 1, 2, 3, 4] [(.bin .FloorDiv (.bin .Sub (.var 1) (.var 3)) (.lit (.int 2))), (.bin .FloorDiv (.bin .Add (.var 0) (.var 2)) (.lit (.int 2))), (.bin .FloorDiv (.bin .Add (.var 1) (.var 3)) (.lit (.int 2))), (.bin .FloorDiv (.bin .Sub (.var 2) (.var 0)) (.lit (.int 2))), (.bin .Sub (.var 4) (.lit (.int 1)))])]), (.ret (.tup [(.var 0), (.var 1), (.var 2), (.var 3), (.var 4)]))] [some v0, some v1, some v2, some v3, some v4] st (MI.GF Q)) : MI.GC G (d + 1) 4 [v0, v1, v2, v3, v4] st Q := MI.gc_def (fn := ⟨5, 5, b_low⟩) rfl rfl h
theorem c_times_r {d : Nat} {st : MI.Store} {Q : MI.PV → MI.Store → Prop} {v0 v1 : MI.PV} (h : MI.GSs G d [(.asgT [2, 3, 4, 5] (.var 0)), (.ifs (.tval (.cmp .Eq (.bin .Mod (.var 1) (.lit (.int 2))) (.lit (.int 1)))) [(.par [2, 3, 4, 5] [(.bin .Sub (.var 3) (.var 5)), (.bin .Add (.var 2) (.var 4)), (.bin .Add (.var 3) (.var 5)), (.bin .Sub (.var 4) (.var 2))])] []), (.asg 6 (.bin .LShift (.lit (.int 1)) (.bin .FloorDiv (.var 1) (.lit (.int 2))))), (.ret (.tup [(.bin .Mult (.var 6) (.var 2)), (.bin .Mult (.var 6) (.var 3)), (.bin .Mult (.var 6) (.var 4)), (.bin .Mult (.var 6) (.var 5))]))] [some v0, some v1, none, none, none, none, none] st (MI.GF Q)) : MI.GC G (d + 1) 5 [v0, v1] st Q := MI.gc_def (fn := ⟨2, 7, b_times_r⟩) rfl rfl h
theorem c_plus {d : Nat} {st : MI.Store} {Q : MI.PV → MI.Store → Prop} {v0 v1 : MI.PV} (h : MI.GSs G d [(.ifs (.tval (.cmp .Lt (.idx (.var 0) (.lit (.int 4))) (.idx (.var 1) (.lit (.int 4))))) [(.par [0, 1] [(.var 1), (.var 0)])] []), (.asg 2 (.call 5 [(.slice (.var 1) none (some (.lit (.int 4)))), (.bin .Sub (.idx (.var 0) (.lit (.int 4))) (.idx (.var 1) (.lit (.int 4))))])), (.ret (.call 4 [(.bin .Add (.idx (.var 0) (.lit (.int 0))) (.idx (.var 2) (.lit (.int 0)))), (.bin .Add (.idx (.var 0) (.lit (.int 1))) (.idx (.var 2) (.lit (.int 1)))), (.bin .Add (.idx (.var 0) (.lit (.int 2))) (.idx (.var 2) (.lit (.int 2)))), (.bin .Add (.idx (.var 0) (.lit (.int 3))) (.idx (.var 2) (.lit (.int 3)))), (.idx (.var 0) (.lit (.int 4)))]))] [some v0, some v1, none] st (MI.GF Q)) : MI.GC G (d + 1) 6 [v0, v1] st Q := MI.gc_def (fn := ⟨2, 3, b_plus⟩) rfl rfl h
theorem c_minus {d : Nat} {st : MI.Store} {Q : MI.PV → MI.Store → Prop} {v0 : MI.PV} (h : MI.GSs G d [(.ret (.tup [(.neg (.idx (.var 0) (.lit (.int 0)))), (.neg (.idx (.var 0) (.lit (.int 1)))), (.neg (.idx (.var 0) (.lit (.int 2)))), (.neg (.idx (.var 0) (.lit (.int 3)))), (.idx (.var 0) (.lit (.int 4)))]))] [some v0] st (MI.GF Q)) : MI.GC G (d + 1) 7 [v0] st Q := MI.gc_def (fn := ⟨1, 1, b_minus⟩) rfl rfl h
theorem c_times {d : Nat} {st : MI.Store} {Q : MI.PV → MI.Store → Prop} {v0 v1 : MI.PV} (h : MI.GSs G d [(.asgT [2, 3, 4, 5, 6] (.var 0)), (.asgT [7, 8, 9, 10, 11] (.var 1)), (.ret (.call 4 [(.bin .Sub (.bin .Sub (.bin .Sub (.bin .Mult (.var 2) (.var 7)) (.bin .Mult (.var 3) (.var 10))) (.bin .Mult (.var 4) (.var 9))) (.bin .Mult (.var 5) (.var 8))), (.bin .Sub (.bin .Sub (.bin .Add (.bin .Mult (.var 2) (.var 8)) (.bin .Mult (.var 3) (.var 7))) (.bin .Mult (.var 4) (.var 10))) (.bin .Mult (.var 5) (.var 9))), (.bin .Sub (.bin .Add (.bin .Add (.bin .Mult (.var 2) (.var 9)) (.bin .Mult (.var 3) (.var 8))) (.bin .Mult (.var 4) (.var 7))) (.bin .Mult (.var 5) (.var 10))), (.bin .Add (.bin .Add (.bin .Add (.bin .Mult (.var 2) (.var 10)) (.bin .Mult (.var 3) (.var 9))) (.bin .Mult (.var 4) (.var 8))) (.bin .Mult (.var 5) (.var 7))), (.bin .Add (.var 6) (.var 11))]))] [some v0, some v1, none, none, none, none, none, none, none, none, none, none] st (MI.GF Q)) : MI.GC G (d + 1) 8 [v0, v1] st Q := MI.gc_def (fn := ⟨2, 12, b_times⟩) rfl rfl h
theorem c_bar {d : Nat} {st : MI.Store} {Q : MI.PV → MI.Store → Prop} {v0 : MI.PV} (h : MI.GSs G d [(.asgT [1, 2, 3, 4, 5] (.var 0)), (.ret (.tup [(.var 1), (.neg (.var 4)), (.neg (.var 3)), (.neg (.var 2)), (.var 5)]))] [some v0, none, none, none, none, none] st (MI.GF Q)) : MI.GC G (d + 1) 9 [v0] st Q := MI.gc_def (fn := ⟨1, 6, b_bar⟩) rfl rfl h
theorem c_turned_by {d : Nat} {st : MI.Store} {Q : MI.PV → MI.Store → Prop} {v0 v1 : MI.PV} (h : MI.GSs G d [(.asgT [2, 3, 4, 5, 6] (.var 0)), (.forS (.name 7) .rng [(.bin .Mod (.var 1) (.glob 8))] [(.par [2, 3, 4, 5] [(.neg (.var 5)), (.var 2), (.var 3), (.var 4)])]), (.ret (.tup [(.var 2), (.var 3), (.var 4), (.var 5), (.var 6)]))] [some v0, some v1, none, none, none, none, none, none] st (MI.GF Q)) : MI.GC G (d + 1) 10 [v0, v1] st Q := MI.gc_def (fn := ⟨2, 8, b_turned_by⟩) rfl rfl h
theorem c_need_root {d : Nat} {st : MI.Store} {Q : MI.PV → MI.Store → Prop} {v0 : MI.PV} (h : MI.GSs G d [(.ifs (.tnot (.tval (.call 3 [(.var 0)]))) [.never] [])] [some v0] st (MI.GF Q)) : MI.GC G (d + 1) 11 [v0] st Q := MI.gc_def (fn := ⟨1, 1, b_need_root⟩) rfl rfl h
theorem c_need_numbers {d : Nat} {st : MI.Store} {Q : MI.PV → MI.Store → Prop} {v0 : MI.PV} (h : MI.GSs G d [(.forS (.name 1) .seq [(.slice (.var 0) none (some (.neg (.lit (.int 1)))))] [(.ifs (.tnot (.tval (.call 0 [(.var 1)]))) [.never] [])]), (.ifs (.tnot (.tval (.call 1 [(.idx (.var 0) (.neg (.lit (.int 1)))), (.lit (.int 0))]))) [.never] [])] [some v0, none] st (MI.GF Q)) : MI.GC G (d + 1) 12 [v0] st Q := MI.gc_def (fn := ⟨1, 2, b_need_numbers⟩) rfl rfl h
theorem c_lowest_root {d : Nat} {st : MI.Store} {Q : MI.PV → MI.Store → Prop} {v0 v1 v2 v3 v4 : MI.PV} (h : MI.GSs G d [(.expr (.call 12 [(.tup [(.var 0), (.var 1), (.var 2), (.var 3), (.var 4)])])), (.ret (.call 4 [(.var 0), (.var 1), (.var 2), (.var 3), (.var 4)]))] [some v0, some v1, some v2, some v3, some v4] st (MI.GF Q)) : MI.GC G (d + 1) 13 [v0, v1, v2, v3, v4] st Q := MI.gc_def (fn := ⟨5, 5, b_lowest_root⟩) rfl rfl h
theorem c_root_plus {d : Nat} {st : MI.Store} {Q : MI.PV → MI.Store → Prop} {v0 v1 : MI.PV} (h : MI.GSs G d [(.expr (.call 11 [(.var 0)])), (.expr (.call 11 [(.var 1)])), (.ret (.call 6 [(.var 0), (.var 1)]))] [some v0, some v1] st (MI.GF Q)) : MI.GC G (d + 1) 14 [v0, v1] st Q := MI.gc_def (fn := ⟨2, 2, b_root_plus⟩) rfl rfl h
theorem c_root_times {d : Nat} {st : MI.Store} {Q : MI.PV → MI.Store → Prop} {v0 v1 : MI.PV} (h : MI.GSs G d [(.expr (.call 11 [(.var 0)])), (.expr (.call 11 [(.var 1)])), (.ret (.call 8 [(.var 0), (.var 1)]))] [some v0, some v1] st (MI.GF Q)) : MI.GC G (d + 1) 15 [v0, v1] st Q := MI.gc_def (fn := ⟨2, 2, b_root_times⟩) rfl rfl h
theorem c_root_minus {d : Nat} {st : MI.Store} {Q : MI.PV → MI.Store → Prop} {v0 : MI.PV} (h : MI.GSs G d [(.expr (.call 11 [(.var 0)])), (.ret (.call 7 [(.var 0)]))] [some v0] st (MI.GF Q)) : MI.GC G (d + 1) 16 [v0] st Q := MI.gc_def (fn := ⟨1, 1, b_root_minus⟩) rfl rfl h
theorem c_conjugate {d : Nat} {st : MI.Store} {Q : MI.PV → MI.Store → Prop} {v0 : MI.PV} (h : MI.GSs G d [(.expr (.call 11 [(.var 0)])), (.ret (.call 9 [(.var 0)]))] [some v0] st (MI.GF Q)) : MI.GC G (d + 1) 17 [v0] st Q := MI.gc_def (fn := ⟨1, 1, b_conjugate⟩) rfl rfl h
theorem c_turned {d : Nat} {st : MI.Store} {Q : MI.PV → MI.Store → Prop} {v0 v1 : MI.PV} (h : MI.GSs G d [(.expr (.call 11 [(.var 0)])), (.ifs (.tnot (.tval (.call 0 [(.var 1)]))) [.never] []), (.ret (.call 10 [(.var 0), (.var 1)]))] [some v0, some v1] st (MI.GF Q)) : MI.GC G (d + 1) 18 [v0, v1] st Q := MI.gc_def (fn := ⟨2, 2, b_turned⟩) rfl rfl h
theorem c_law_deck {d : Nat} {st : MI.Store} {Q : MI.PV → MI.Store → Prop} {v0 : MI.PV} (h : MI.GSs G d [(.asg 1 (.lit (.int 15376001))), (.forS (.name 2) .seq [(.slice (.var 0) none (some (.lit (.int 63))))] [(.asg 1 (.bin .Mod (.bi .int1 [(.bin .Add (.bin .Add (.bin .Mult (.var 1) (.lit (.int 48271))) (.bin .Mod (.bi .int1 [(.var 2)]) (.lit (.int 2147483563)))) (.lit (.int 32)))]) (.lit (.int 2147483629))))]), (.ret (.dct ["left", "mixed", "draws"] [(.rev (.comp (.bi .int1 [(.var 2)]) (.name 2) .seq [(.slice (.var 0) none (some (.lit (.int 63))))] [] [2])), (.var 1), (.lit (.int 0))]))] [some v0, none, none] st (MI.GF Q)) : MI.GC G (d + 1) 19 [v0] st Q := MI.gc_def (fn := ⟨1, 3, b_law_deck⟩) rfl rfl h
theorem c_law_draw {d : Nat} {st : MI.Store} {Q : MI.PV → MI.Store → Prop} {v0 v1 : MI.PV} (h : MI.GSs G d [(.put (.var 0) "draws" (.bin .Add (.idx (.var 0) (.lit (.str "draws"))) (.lit (.int 1)))), (.asg 2 (.bin .Add (.idx (.var 0) (.lit (.str "mixed"))) (.bin .Mult (.lit (.int 62047)) (.idx (.var 0) (.lit (.str "draws")))))), (.ifs (.tval (.cmp .NotEq (.idx (.var 0) (.lit (.str "left"))) (.lst []))) [(.asg 3 (.pop (.idx (.var 0) (.lit (.str "left"))))), (.ifs (.tval (.cmp .GtE (.var 3) (.bin .Pow (.lit (.int 10)) (.lit (.int 18))))) [(.expr (.append (.idx (.var 0) (.lit (.str "left"))) (.bin .FloorDiv (.var 3) (.bi .max2 [(.lit (.int 2)), (.var 1)])))), (.ret (.bin .Mod (.bi .int1 [(.var 3)]) (.var 1)))] []), (.asg 2 (.bin .Add (.var 2) (.bin .Mod (.bi .int1 [(.var 3)]) (.lit (.int 2147483629)))))] []), (.asg 2 (.bin .Mod (.bi .int1 [(.bin .Add (.bin .Mult (.var 2) (.lit (.int 40692))) (.lit (.int 58)))]) (.lit (.int 2147483647)))), (.asg 2 (.bin .Mod (.bi .int1 [(.bin .Add (.bin .Add (.bin .Mult (.var 2) (.var 2)) (.bin .Mult (.lit (.int 54037)) (.idx (.var 0) (.lit (.str "draws"))))) (.lit (.int 19)))]) (.lit (.int 2147483587)))), (.asg 2 (.bin .Mod (.bi .int1 [(.bin .Mult (.var 2) (.lit (.int 39373)))]) (.lit (.int 2147483563)))), (.ret (.bin .Mod (.bi .int1 [(.bin .FloorDiv (.var 2) (.lit (.int 64)))]) (.var 1)))] [some v0, some v1, none, none] st (MI.GF Q)) : MI.GC G (d + 1) 20 [v0, v1] st Q := MI.gc_def (fn := ⟨2, 4, b_law_draw⟩) rfl rfl h
theorem c_law_pick {d : Nat} {st : MI.Store} {Q : MI.PV → MI.Store → Prop} {v0 v1 : MI.PV} (h : MI.GSs G d [(.ret (.idx (.var 1) (.call 20 [(.var 0), (.bi .len [(.var 1)])])))] [some v0, some v1] st (MI.GF Q)) : MI.GC G (d + 1) 21 [v0, v1] st Q := MI.gc_def (fn := ⟨2, 2, b_law_pick⟩) rfl rfl h
theorem c_law_same {d : Nat} {st : MI.Store} {Q : MI.PV → MI.Store → Prop} {v0 v1 : MI.PV} (h : MI.GSs G d [(.ifs (.tval (.bi .isinst [(.var 1), (.ty "tuple")])) [(.ifs (.tor [(.tnot (.tval (.bi .isinst [(.var 0), (.ty "tuple")]))), (.tval (.cmp .NotEq (.bi .len [(.var 0)]) (.bi .len [(.var 1)])))]) [(.ret (.lit (.bl false)))] []), (.ret (.cmp .Eq (.comp (.lit (.int 1)) (.tup [2, 3]) .zip [(.var 0), (.var 1)] [(.tnot (.tval (.call 22 [(.var 2), (.var 3)])))] [2, 3]) (.lst [])))] []), (.ifs (.tval (.bi .isinst [(.var 1), (.ty "list")])) [(.ret (.and [(.bi .isinst [(.var 0), (.ty "list")]), (.call 22 [(.bi .tuple1 [(.var 0)]), (.bi .tuple1 [(.var 1)])])]))] []), (.ifs (.tval (.bi .isinst [(.var 1), (.ty "dict")])) [(.ret (.and [(.bi .isinst [(.var 0), (.ty "dict")]), (.cmp .Eq .never .never)]))] []), (.ifs (.tor [(.tval (.cmp .Is (.var 1) (.lit .non))), (.tval (.bi .isinst [(.var 1), (.ty "bool")]))]) [(.ret (.ife (.tval (.cmp .Is (.var 1) (.lit .non))) (.cmp .Is (.var 0) (.lit .non)) (.ife (.tval (.var 1)) (.cmp .Is (.var 0) (.lit (.bl true))) (.cmp .Is (.var 0) (.lit (.bl false))))))] []), (.ifs (.tval (.bi .isinst [(.var 1), (.ty "int")])) [(.ret (.and [(.bi .isinst [(.var 0), (.ty "int")]), (.not (.bi .isinst [(.var 0), (.ty "bool")])), (.cmp .Eq (.var 0) (.var 1))]))] []), (.ret (.and [(.bi .isinst [(.var 0), (.ty "str")]), (.cmp .Eq (.var 0) (.var 1))]))] [some v0, some v1, none, none] st (MI.GF Q)) : MI.GC G (d + 1) 22 [v0, v1] st Q := MI.gc_def (fn := ⟨2, 4, b_law_same⟩) rfl rfl h
theorem c_law_int {d : Nat} {st : MI.Store} {Q : MI.PV → MI.Store → Prop} {v0 v1 : MI.PV} (h : MI.GSs G d [(.asg 2 (.call 20 [(.var 0), (.lit (.int 6))])), (.ifs (.tval (.cmp .Lt (.var 2) (.lit (.int 3)))) [(.ret (.bin .Sub (.call 20 [(.var 0), (.call 21 [(.var 0), (.tup [(.lit (.int 3)), (.lit (.int 8)), (.lit (.int 2001))])])]) (.call 21 [(.var 0), (.tup [(.lit (.int 1)), (.lit (.int 3)), (.lit (.int 1000))])])))] []), (.asg 3 (.bin .Add (.lit (.int 1)) (.call 20 [(.var 0), (.var 1)]))), (.asg 4 (.bin .Pow (.lit (.int 10)) (.lit (.int 0)))), (.ifs (.tval (.cmp .Lt (.var 2) (.lit (.int 5)))) [(.asg 4 (.lit (.int 0))), (.forS (.name 5) .rng [(.bin .FloorDiv (.bin .Add (.var 3) (.lit (.int 8))) (.lit (.int 9)))] [(.asg 4 (.bin .Add (.bin .Mult (.var 4) (.lit (.int 1000000000))) (.call 20 [(.var 0), (.lit (.int 1000000000))])))]), (.forS (.name 5) .rng [(.bin .Sub (.bin .Mult (.lit (.int 9)) (.bin .FloorDiv (.bin .Add (.var 3) (.lit (.int 8))) (.lit (.int 9)))) (.var 3))] [(.asg 4 (.bin .FloorDiv (.var 4) (.lit (.int 10))))])] [(.par [6, 7] [(.call 21 [(.var 0), (.tup [(.tup [(.lit (.int 2)), (.bin .Mult (.var 3) (.lit (.int 3)))]), (.tup [(.lit (.int 10)), (.bin .Sub (.var 3) (.lit (.int 1)))])])]), (.lit (.int 1))]), (.forS (.name 5) .rng [(.idx (.var 6) (.lit (.int 1)))] [(.asg 7 (.bin .Mult (.var 7) (.idx (.var 6) (.lit (.int 0)))))]), (.asg 4 (.bin .Sub (.var 7) (.call 20 [(.var 0), (.lit (.int 3))])))]), (.ret (.ife (.tval (.cmp .Eq (.call 20 [(.var 0), (.lit (.int 2))]) (.lit (.int 0)))) (.neg (.var 4)) (.var 4)))] [some v0, some v1, none, none, none, none, none, none] st (MI.GF Q)) : MI.GC G (d + 1) 23 [v0, v1] st Q := MI.gc_def (fn := ⟨2, 8, b_law_int⟩) rfl rfl h
theorem c_law_low {d : Nat} {st : MI.Store} {Q : MI.PV → MI.Store → Prop} {v0 v1 v2 v3 v4 : MI.PV} (h : MI.GSs G d [(.whl (.tand [(.tval (.cmp .Gt (.var 4) (.lit (.int 0)))), (.tval (.cmp .Eq (.bin .Mod (.bi .int1 [(.bin .Sub (.var 0) (.var 2))]) (.lit (.int 2))) (.lit (.int 0)))), (.tval (.cmp .Eq (.bin .Mod (.bi .int1 [(.bin .Sub (.var 1) (.var 3))]) (.lit (.int 2))) (.lit (.int 0))))]) [(.par [0, 1, 2, 3, 4] [(.bin .FloorDiv (.bin .Sub (.var 1) (.var 3)) (.lit (.int 2))), (.bin .FloorDiv (.bin .Add (.var 0) (.var 2)) (.lit (.int 2))), (.bin .FloorDiv (.bin .Add (.var 1) (.var 3)) (.lit (.int 2))), (.bin .FloorDiv (.bin .Sub (.var 2) (.var 0)) (.lit (.int 2))), (.bin .Sub (.var 4) (.lit (.int 1)))])]), (.ret (.tup [(.var 0), (.var 1), (.var 2), (.var 3), (.var 4)]))] [some v0, some v1, some v2, some v3, some v4] st (MI.GF Q)) : MI.GC G (d + 1) 24 [v0, v1, v2, v3, v4] st Q := MI.gc_def (fn := ⟨5, 5, b_law_low⟩) rfl rfl h
theorem c_law_raised {d : Nat} {st : MI.Store} {Q : MI.PV → MI.Store → Prop} {v0 v1 v2 v3 v4 : MI.PV} (h : MI.GSs G d [(.forS (.name 5) .rng [(.var 4)] [(.par [0, 1, 2, 3] [(.bin .Sub (.var 1) (.var 3)), (.bin .Add (.var 0) (.var 2)), (.bin .Add (.var 1) (.var 3)), (.bin .Sub (.var 2) (.var 0))])]), (.ret (.tup [(.var 0), (.var 1), (.var 2), (.var 3)]))] [some v0, some v1, some v2, some v3, some v4, none] st (MI.GF Q)) : MI.GC G (d + 1) 25 [v0, v1, v2, v3, v4] st Q := MI.gc_def (fn := ⟨5, 6, b_law_raised⟩) rfl rfl h
theorem c_law_plus {d : Nat} {st : MI.Store} {Q : MI.PV → MI.Store → Prop} {v0 v1 : MI.PV} (h : MI.GSs G d [(.asg 2 (.bi .max2 [(.idx (.var 0) (.lit (.int 4))), (.idx (.var 1) (.lit (.int 4)))])), (.par [3, 4] [(.call 25 [(.idx (.var 0) (.lit (.int 0))), (.idx (.var 0) (.lit (.int 1))), (.idx (.var 0) (.lit (.int 2))), (.idx (.var 0) (.lit (.int 3))), (.bin .Sub (.var 2) (.idx (.var 0) (.lit (.int 4))))]), (.call 25 [(.idx (.var 1) (.lit (.int 0))), (.idx (.var 1) (.lit (.int 1))), (.idx (.var 1) (.lit (.int 2))), (.idx (.var 1) (.lit (.int 3))), (.bin .Sub (.var 2) (.idx (.var 1) (.lit (.int 4))))])]), (.ret (.call 24 [(.bin .Add (.idx (.var 3) (.lit (.int 0))) (.idx (.var 4) (.lit (.int 0)))), (.bin .Add (.idx (.var 3) (.lit (.int 1))) (.idx (.var 4) (.lit (.int 1)))), (.bin .Add (.idx (.var 3) (.lit (.int 2))) (.idx (.var 4) (.lit (.int 2)))), (.bin .Add (.idx (.var 3) (.lit (.int 3))) (.idx (.var 4) (.lit (.int 3)))), (.var 2)]))] [some v0, some v1, none, none, none] st (MI.GF Q)) : MI.GC G (d + 1) 26 [v0, v1] st Q := MI.gc_def (fn := ⟨2, 5, b_law_plus⟩) rfl rfl h
theorem c_law_four {d : Nat} {st : MI.Store} {Q : MI.PV → MI.Store → Prop} {v0 v1 : MI.PV} (h : MI.GSs G d [(.asgT [2, 3, 4, 5] (.var 0)), (.asgT [6, 7, 8, 9] (.var 1)), (.ret (.tup [(.bin .Sub (.bin .Sub (.bin .Sub (.bin .Mult (.var 2) (.var 6)) (.bin .Mult (.var 3) (.var 9))) (.bin .Mult (.var 4) (.var 8))) (.bin .Mult (.var 5) (.var 7))), (.bin .Sub (.bin .Sub (.bin .Add (.bin .Mult (.var 2) (.var 7)) (.bin .Mult (.var 3) (.var 6))) (.bin .Mult (.var 4) (.var 9))) (.bin .Mult (.var 5) (.var 8))), (.bin .Sub (.bin .Add (.bin .Add (.bin .Mult (.var 2) (.var 8)) (.bin .Mult (.var 3) (.var 7))) (.bin .Mult (.var 4) (.var 6))) (.bin .Mult (.var 5) (.var 9))), (.bin .Add (.bin .Add (.bin .Add (.bin .Mult (.var 2) (.var 9)) (.bin .Mult (.var 3) (.var 8))) (.bin .Mult (.var 4) (.var 7))) (.bin .Mult (.var 5) (.var 6)))]))] [some v0, some v1, none, none, none, none, none, none, none, none] st (MI.GF Q)) : MI.GC G (d + 1) 27 [v0, v1] st Q := MI.gc_def (fn := ⟨2, 10, b_law_four⟩) rfl rfl h
theorem c_law_times {d : Nat} {st : MI.Store} {Q : MI.PV → MI.Store → Prop} {v0 v1 : MI.PV} (h : MI.GSs G d [(.asg 2 (.call 27 [(.slice (.var 0) none (some (.lit (.int 4)))), (.slice (.var 1) none (some (.lit (.int 4))))])), (.ret (.call 24 [(.idx (.var 2) (.lit (.int 0))), (.idx (.var 2) (.lit (.int 1))), (.idx (.var 2) (.lit (.int 2))), (.idx (.var 2) (.lit (.int 3))), (.bin .Add (.idx (.var 0) (.lit (.int 4))) (.idx (.var 1) (.lit (.int 4))))]))] [some v0, some v1, none] st (MI.GF Q)) : MI.GC G (d + 1) 28 [v0, v1] st Q := MI.gc_def (fn := ⟨2, 3, b_law_times⟩) rfl rfl h
theorem c_law_minus {d : Nat} {st : MI.Store} {Q : MI.PV → MI.Store → Prop} {v0 : MI.PV} (h : MI.GSs G d [(.ret (.tup [(.neg (.idx (.var 0) (.lit (.int 0)))), (.neg (.idx (.var 0) (.lit (.int 1)))), (.neg (.idx (.var 0) (.lit (.int 2)))), (.neg (.idx (.var 0) (.lit (.int 3)))), (.idx (.var 0) (.lit (.int 4)))]))] [some v0] st (MI.GF Q)) : MI.GC G (d + 1) 29 [v0] st Q := MI.gc_def (fn := ⟨1, 1, b_law_minus⟩) rfl rfl h
theorem c_law_conjugate {d : Nat} {st : MI.Store} {Q : MI.PV → MI.Store → Prop} {v0 : MI.PV} (h : MI.GSs G d [(.ret (.tup [(.idx (.var 0) (.lit (.int 0))), (.neg (.idx (.var 0) (.lit (.int 3)))), (.neg (.idx (.var 0) (.lit (.int 2)))), (.neg (.idx (.var 0) (.lit (.int 1)))), (.idx (.var 0) (.lit (.int 4)))]))] [some v0] st (MI.GF Q)) : MI.GC G (d + 1) 30 [v0] st Q := MI.gc_def (fn := ⟨1, 1, b_law_conjugate⟩) rfl rfl h
theorem c_law_turned {d : Nat} {st : MI.Store} {Q : MI.PV → MI.Store → Prop} {v0 v1 : MI.PV} (h : MI.GSs G d [(.asg 2 (.var 0)), (.forS (.name 3) .rng [(.bin .Mod (.bi .int1 [(.var 1)]) (.lit (.int 8)))] [(.asg 2 (.tup [(.neg (.idx (.var 2) (.lit (.int 3)))), (.idx (.var 2) (.lit (.int 0))), (.idx (.var 2) (.lit (.int 1))), (.idx (.var 2) (.lit (.int 2))), (.idx (.var 2) (.lit (.int 4)))]))]), (.ret (.var 2))] [some v0, some v1, none, none] st (MI.GF Q)) : MI.GC G (d + 1) 31 [v0, v1] st Q := MI.gc_def (fn := ⟨2, 4, b_law_turned⟩) rfl rfl h
theorem c_law_root {d : Nat} {st : MI.Store} {Q : MI.PV → MI.Store → Prop} {v0 : MI.PV} (h : MI.GSs G d [(.asg 1 (.call 20 [(.var 0), (.lit (.int 8))])), (.ifs (.tval (.cmp .Eq (.var 1) (.lit (.int 0)))) [(.asg 2 (.call 31 [(.tup [(.lit (.int 1)), (.lit (.int 0)), (.lit (.int 0)), (.lit (.int 0)), (.lit (.int 0))]), (.call 20 [(.var 0), (.lit (.int 8))])])), (.ret (.call 21 [(.var 0), (.lst [(.tup [(.lit (.int 0)), (.lit (.int 0)), (.lit (.int 0)), (.lit (.int 0)), (.lit (.int 0))]), (.var 2), (.bin .Add (.slice (.var 2) none (some (.lit (.int 4)))) (.tup [(.call 21 [(.var 0), (.lst [(.lit (.int 1)), (.lit (.int 2)), (.lit (.int 3)), (.lit (.int 40)), (.lit (.int 499)), (.lit (.int 500))])])]))])]))] []), (.asgT [3, 4] (.ife (.tval (.cmp .Lt (.var 1) (.lit (.int 4)))) (.tup [(.lit (.int 1)), (.lit (.int 5))]) (.ife (.tval (.cmp .Lt (.var 1) (.lit (.int 7)))) (.tup [(.lit (.int 30)), (.lit (.int 41))]) (.tup [(.lit (.int 149)), (.lit (.int 501))])))), (.asg 5 (.comp (.call 23 [(.var 0), (.var 3)]) (.name 6) .rng [(.lit (.int 4))] [] [6])), (.ifs (.tval (.cmp .Eq (.call 20 [(.var 0), (.lit (.int 4))]) (.lit (.int 0)))) [(.asg 5 (.comp (.bin .Mult (.var 7) (.call 20 [(.var 0), (.lit (.int 2))])) (.name 7) .seq [(.var 5)] [] [7]))] []), (.ret (.call 24 [(.idx (.var 5) (.lit (.int 0))), (.idx (.var 5) (.lit (.int 1))), (.idx (.var 5) (.lit (.int 2))), (.idx (.var 5) (.lit (.int 3))), (.call 20 [(.var 0), (.var 4)])]))] [some v0, none, none, none, none, none, none, none] st (MI.GF Q)) : MI.GC G (d + 1) 32 [v0] st Q := MI.gc_def (fn := ⟨1, 8, b_law_root⟩) rfl rfl h
theorem c_law_second {d : Nat} {st : MI.Store} {Q : MI.PV → MI.Store → Prop} {v0 v1 : MI.PV} (h : MI.GSs G d [(.par [2, 3] [(.call 20 [(.var 0), (.lit (.int 8))]), (.call 32 [(.var 0)])]), (.ifs (.tval (.cmp .Lt (.var 2) (.lit (.int 4)))) [(.ret (.var 3))] []), (.asg 4 (.lst [(.var 1), (.call 29 [(.var 1)]), (.call 30 [(.var 1)]), (.call 31 [(.var 1), (.call 20 [(.var 0), (.lit (.int 8))])]), (.call 26 [(.var 3), (.call 29 [(.var 1)])])])), (.ret (.call 21 [(.var 0), (.bin .Add (.var 4) (.lst [(.call 26 [(.var 3), (.call 29 [(.var 1)])])]))]))] [some v0, some v1, none, none, none] st (MI.GF Q)) : MI.GC G (d + 1) 33 [v0, v1] st Q := MI.gc_def (fn := ⟨2, 5, b_law_second⟩) rfl rfl h
theorem c_law_is_five_right {d : Nat} {st : MI.Store} {Q : MI.PV → MI.Store → Prop} {v0 : MI.PV} (h : MI.GSs G d [(.asg 1 (.call 32 [(.var 0)])), (.asg 2 (.call 20 [(.var 0), (.call 21 [(.var 0), (.tup [(.lit (.int 3)), (.lit (.int 40)), (.ife (.tval (.cmp .Lt (.idx (.var 1) (.lit (.int 4))) (.lit (.int 100)))) (.lit (.int 901)) (.lit (.int 3)))])])])), (.asg 3 (.call 25 [(.idx (.var 1) (.lit (.int 0))), (.idx (.var 1) (.lit (.int 1))), (.idx (.var 1) (.lit (.int 2))), (.idx (.var 1) (.lit (.int 3))), (.var 2)])), (.asg 4 (.lst [(.call 13 [(.idx (.var 3) (.lit (.int 0))), (.idx (.var 3) (.lit (.int 1))), (.idx (.var 3) (.lit (.int 2))), (.idx (.var 3) (.lit (.int 3))), (.bin .Add (.idx (.var 1) (.lit (.int 4))) (.var 2))])])), (.expr (.append (.var 4) (.callK 13 [] [(.bin .Add (.idx (.var 1) (.lit (.int 4))) (.var 2)), (.idx (.var 3) (.lit (.int 3))), (.idx (.var 3) (.lit (.int 2))), (.idx (.var 3) (.lit (.int 1))), (.idx (.var 3) (.lit (.int 0)))] [4, 3, 2, 1, 0]))), (.asg 5 (.call 20 [(.var 0), (.lit (.int 4))])), (.asg 6 (.bin .Add (.bin .Add (.slice (.var 3) none (some (.var 5))) (.tup [(.bin .Add (.idx (.var 3) (.var 5)) (.call 21 [(.var 0), (.lst [(.lit (.int 1)), (.neg (.lit (.int 1))), (.lit (.int 2))])]))])) (.slice (.var 3) (some (.bin .Add (.var 5) (.lit (.int 1)))) none))), (.expr (.append (.var 4) (.call 13 [(.idx (.var 6) (.lit (.int 0))), (.idx (.var 6) (.lit (.int 1))), (.idx (.var 6) (.lit (.int 2))), (.idx (.var 6) (.lit (.int 3))), (.bin .Add (.idx (.var 1) (.lit (.int 4))) (.var 2))]))), (.ret (.call 22 [(.bi .tuple1 [(.var 4)]), (.tup [(.var 1), (.var 1), (.call 24 [(.idx (.var 6) (.lit (.int 0))), (.idx (.var 6) (.lit (.int 1))), (.idx (.var 6) (.lit (.int 2))), (.idx (.var 6) (.lit (.int 3))), (.bin .Add (.idx (.var 1) (.lit (.int 4))) (.var 2))])])]))] [some v0, none, none, none, none, none, none] st (MI.GF Q)) : MI.GC G (d + 1) 34 [v0] st Q := MI.gc_def (fn := ⟨1, 7, b_law_is_five_right⟩) rfl rfl h
theorem c_law {d : Nat} {st : MI.Store} {Q : MI.PV → MI.Store → Prop} {v0 : MI.PV} (h : MI.GSs G d [(.asg 1 (.call 19 [(.var 0)])), (.forS (.name 2) .rng [(.lit (.int 4))] [(.asg 3 (.call 32 [(.var 1)])), (.asg 4 (.call 33 [(.var 1), (.var 3)])), (.asg 5 (.call 21 [(.var 1), (.lst [(.lit (.int 0)), (.lit (.int 1)), (.neg (.lit (.int 1))), (.lit (.int 7)), (.lit (.int 8)), (.lit (.int 12)), (.neg (.lit (.int 3))), (.bin .Pow (.lit (.int 10)) (.lit (.int 12))), (.neg (.bin .Pow (.lit (.int 10)) (.lit (.int 12)))), (.bin .Sub (.bin .Pow (.lit (.int 10)) (.lit (.int 12))) (.call 20 [(.var 1), (.lit (.int 9))])), (.bin .Sub (.call 20 [(.var 1), (.lit (.int 100000))]) (.lit (.int 50000)))])])), (.asg 6 (.tup [(.call 14 [(.var 3), (.var 4)]), (.callK 14 [] [(.var 3), (.var 4)] [1, 0]), (.call 15 [(.var 3), (.var 4)]), (.callK 15 [] [(.var 3), (.var 4)] [1, 0])])), (.asg 7 (.bin .Add (.bin .Mult (.tup [(.call 26 [(.var 3), (.var 4)])]) (.lit (.int 2))) (.bin .Mult (.tup [(.call 28 [(.var 3), (.var 4)])]) (.lit (.int 2))))), (.ifs (.tnot (.tval (.call 22 [(.var 6), (.var 7)]))) [(.ret (.lit (.bl false)))] []), (.asg 6 (.tup [(.call 16 [(.var 3)]), (.callK 16 [] [(.var 4)] [0]), (.call 17 [(.var 3)]), (.callK 17 [] [(.var 4)] [0]), (.call 18 [(.var 3), (.var 5)]), (.callK 18 [] [(.var 5), (.var 4)] [1, 0])])), (.asg 7 (.tup [(.call 29 [(.var 3)]), (.call 29 [(.var 4)]), (.call 30 [(.var 3)]), (.call 30 [(.var 4)]), (.call 31 [(.var 3), (.var 5)]), (.call 31 [(.var 4), (.var 5)])])), (.ifs (.tor [(.tnot (.tval (.call 22 [(.var 6), (.var 7)]))), (.tnot (.tval (.call 34 [(.var 1)])))]) [(.ret (.lit (.bl false)))] [])]), (.ret (.call 22 [(.tup [(.call 14 [(.tup [(.lit (.int 1)), (.lit (.int 0)), (.lit (.int 0)), (.lit (.int 0)), (.lit (.int 1))]), (.tup [(.lit (.int 1)), (.lit (.int 0)), (.lit (.int 0)), (.lit (.int 0)), (.lit (.int 1))])]), (.call 13 [(.lit (.int 3)), (.lit (.int 0)), (.lit (.int 1)), (.lit (.int 0)), (.lit (.int 1))])]), (.tup [(.tup [(.lit (.int 0)), (.lit (.int 1)), (.lit (.int 0)), (.neg (.lit (.int 1))), (.lit (.int 0))]), (.tup [(.lit (.int 0)), (.lit (.int 2)), (.lit (.int 0)), (.neg (.lit (.int 1))), (.lit (.int 0))])])]))] [some v0, none, none, none, none, none, none, none] st (MI.GF Q)) : MI.GC G (d + 1) 35 [v0] st Q := MI.gc_def (fn := ⟨1, 8, b_law⟩) rfl rfl h
end
end K01
end
section
set_option Elab.async false
set_option linter.all false
set_option maxRecDepth 100000
set_option maxHeartbeats 4000000
namespace K01
open PySem MI
section
variable {d : Nat} {st : Store} {Q : PV → Store → Prop}
theorem isEmpty_concat {ys : List PV} {z : PV} : (ys ++ [z]).isEmpty = false := by simp
theorem last_concat {ys : List PV} {z : PV} : (ys ++ [z])[(ys ++ [z]).length - 1]? = some z := by simp
theorem divOk_of {j : Int} (h : 0 < j) (h2 : j < 18446744073709551616) : divOk j = true := by
  unfold divOk
  rw [Bool.and_eq_true]
  exact ⟨decide_eq_true h, decide_eq_true (Nat.lt_of_le_of_lt (log2_lt (a := 64) (by omega)) (by decide))⟩
theorem s_draw {D L N : Nat} {many : Int} (h : DeckSt D L N st) (hm : 0 < many) (hm2 : many < 1000000000000) (hN : N ≤ 1000000) (q : ∀ (r : Int) (st' : Store), 0 ≤ r → r < many → DeckSt D L (N + 1) st' → Fr D L st st' → Q (.int r) st') : GC G (d + 1) 20 [.ref D, .int many] st Q := by
  obtain ⟨⟨m, n, hD, m0, m1, n0, n1⟩, ⟨xs, hL, hx, hlen⟩, hne⟩ := h
  refine c_law_draw ?_
  repeat (first
    | with_reducible (first | refine MI.gss_cons ?_ | refine MI.gss_nil ?_ | refine MI.gn_next ?_ | refine MI.gn_ret ?_ | refine MI.gn_brk ?_ | refine MI.gn_cont ?_ | refine MI.gk_next ?_ | refine MI.gk_cont ?_ | refine MI.gk_brk ?_ | refine MI.gk_ret ?_ | refine MI.gf_ret ?_ | refine MI.gf_next ?_ | refine MI.gs_asg ?_ | refine MI.gs_asgT ?_ | refine MI.gs_par ?_ | refine MI.gs_put ?_ | refine MI.gs_if ?_ | refine MI.gs_ret ?_ | refine MI.gs_retN ?_ | refine MI.gs_expr ?_ | refine MI.gs_pass ?_ | refine MI.gs_brk ?_ | refine MI.gs_cont ?_ | refine MI.gs_while ?_ | refine MI.gs_for ?_ | refine MI.ge_of ?_ | refine MI.ga_val ?_ | refine MI.ga_new ?_ | refine MI.gl_nil ?_ | refine MI.gl_cons ?_ | refine MI.gr_nil ?_ | refine MI.gr_cons ?_ | refine MI.gi_rng ?_ | refine MI.gi_of ?_ | refine MI.gv_name ?_ | refine MI.gv_int ?_ | refine MI.gv_bl ?_ | refine MI.gv_str ?_ | refine MI.gv_non ?_ | refine MI.gv_ty ?_ | refine MI.gv_glob ?_ | refine MI.gv_bin ?_ | refine MI.gv_neg ?_ | refine MI.gv_not ?_ | refine MI.gv_and ?_ | refine MI.gv_or ?_ | refine MI.gand_one ?_ | refine MI.gand_cons ?_ | refine MI.gor_one ?_ | refine MI.gor_cons ?_ | refine MI.gv_cmp ?_ | refine MI.gv_chain ?_ | refine MI.gv_ife ?_ | refine MI.gv_idx ?_ | refine MI.gv_slice ?_ | refine MI.go_none ?_ | refine MI.go_some ?_ | refine MI.gv_rev ?_ | refine MI.gv_call ?_ | refine MI.gv_callK ?_ | refine MI.gv_bi ?_ | refine MI.gv_comp ?_ | refine MI.gv_pop ?_ | refine MI.gv_append ?_ | refine MI.gv_dct ?_ | refine MI.gt_not ?_ | refine MI.gt_and ?_ | refine MI.gt_or ?_ | refine MI.gandt_one ?_ | refine MI.gandt_cons ?_ | refine MI.gort_one ?_ | refine MI.gort_cons ?_ | refine MI.gt_val ?_ | refine MI.gifs_nil ?_ | refine MI.gifs_cons ?_ | refine MI.gif_true ?_ | refine MI.gif_false ?_ | refine MI.gif_not ?_ | refine MI.gb_add ?_ | refine MI.gb_sub ?_ | refine MI.gm_lt ?_ | refine MI.gm_le ?_ | refine MI.gm_gt ?_ | refine MI.gm_ge ?_ | refine MI.gm_eq ?_ | refine MI.gm_ne ?_ | refine MI.gm_seq ?_ | refine MI.gtr_bl ?_ | refine MI.gtr_int ?_ | refine MI.gbi_int_int ?_ | refine MI.gbi_int_bool ?_ | refine MI.gbi_int_tup ?_ | refine MI.gbi_int_list ?_ | refine MI.gbi_int_dict ?_ | refine MI.gbi_tup_tup ?_ | refine MI.gbi_bl_tup ?_ | refine MI.gbi_bl_list ?_ | refine MI.gbi_bl_dict ?_ | refine MI.gbi_bl_bool ?_ | refine MI.gbi_len_tup ?_ | refine MI.gbi_int1 ?_ | refine MI.gbi_max ?_)
    | refine gx_dct hD rfl ?_
    | refine ⟨D, _, rfl, hD, (by simp [lim]), ?_⟩
    | with_reducible refine MI.gv_tup ?_
    | with_reducible refine MI.gv_lst ?_
    | with_reducible refine MI.gb_mod (by first | decide | omega) ?_
    | with_reducible refine MI.gb_div (by first | decide | assumption) ?_
    | with_reducible refine MI.gb_mul (by first | decide | assumption) ?_
    | with_reducible refine MI.gb_pow (by decide) ?_
    | with_reducible refine MI.gif_dec_t (by first | assumption | omega | decide) ?_
    | with_reducible refine MI.gif_dec_f (by first | assumption | omega | decide) ?_
    | refine MI.gif_t rfl ?_
    | refine MI.gif_f rfl ?_
    | with_reducible refine MI.grg_of (by omega) (by omega) ?_
    | refine MI.gx_of rfl ?_
    | refine MI.gbi_of rfl ?_
    | refine ⟨_, rfl, ?_⟩
    | refine ⟨_, _, rfl, rfl, ?_⟩
    | refine MI.glc_next rfl ?_
    | refine MI.glc_end rfl ?_
    | refine MI.glf_next rfl ?_
    | refine MI.glf_end rfl ?_
    | refine ⟨Nat.le_of_ble_eq_true rfl, ?_⟩)
  generalize hst1 : st.set D (.dct (dctPut (deckK (.ref L) (.int m) (.int n)) (.inr "draws") (.int (n + 1)))) = st1
  rw [deck_put] at hst1
  have hD1 : st1[D]? = some (.dct (deckK (.ref L) (.int m) (.int (n + 1)))) := by rw [← hst1]; exact at_self hD
  have hL1 : st1[L]? = some (.lst xs) := by rw [← hst1]; exact at_ne hne hL
  have hF1 : Fr D L st st1 := by
    rw [← hst1]
    exact ⟨by simp, fun i h1 h2 h3 => at_ne (Ne.symm h1) rfl⟩
  rcases List.eq_nil_or_concat xs with rfl | ⟨ys, c, rfl⟩
  · repeat (first
      | with_reducible (first | refine MI.gss_cons ?_ | refine MI.gss_nil ?_ | refine MI.gn_next ?_ | refine MI.gn_ret ?_ | refine MI.gn_brk ?_ | refine MI.gn_cont ?_ | refine MI.gk_next ?_ | refine MI.gk_cont ?_ | refine MI.gk_brk ?_ | refine MI.gk_ret ?_ | refine MI.gf_ret ?_ | refine MI.gf_next ?_ | refine MI.gs_asg ?_ | refine MI.gs_asgT ?_ | refine MI.gs_par ?_ | refine MI.gs_put ?_ | refine MI.gs_if ?_ | refine MI.gs_ret ?_ | refine MI.gs_retN ?_ | refine MI.gs_expr ?_ | refine MI.gs_pass ?_ | refine MI.gs_brk ?_ | refine MI.gs_cont ?_ | refine MI.gs_while ?_ | refine MI.gs_for ?_ | refine MI.ge_of ?_ | refine MI.ga_val ?_ | refine MI.ga_new ?_ | refine MI.gl_nil ?_ | refine MI.gl_cons ?_ | refine MI.gr_nil ?_ | refine MI.gr_cons ?_ | refine MI.gi_rng ?_ | refine MI.gi_of ?_ | refine MI.gv_name ?_ | refine MI.gv_int ?_ | refine MI.gv_bl ?_ | refine MI.gv_str ?_ | refine MI.gv_non ?_ | refine MI.gv_ty ?_ | refine MI.gv_glob ?_ | refine MI.gv_bin ?_ | refine MI.gv_neg ?_ | refine MI.gv_not ?_ | refine MI.gv_and ?_ | refine MI.gv_or ?_ | refine MI.gand_one ?_ | refine MI.gand_cons ?_ | refine MI.gor_one ?_ | refine MI.gor_cons ?_ | refine MI.gv_cmp ?_ | refine MI.gv_chain ?_ | refine MI.gv_ife ?_ | refine MI.gv_idx ?_ | refine MI.gv_slice ?_ | refine MI.go_none ?_ | refine MI.go_some ?_ | refine MI.gv_rev ?_ | refine MI.gv_call ?_ | refine MI.gv_callK ?_ | refine MI.gv_bi ?_ | refine MI.gv_comp ?_ | refine MI.gv_pop ?_ | refine MI.gv_append ?_ | refine MI.gv_dct ?_ | refine MI.gt_not ?_ | refine MI.gt_and ?_ | refine MI.gt_or ?_ | refine MI.gandt_one ?_ | refine MI.gandt_cons ?_ | refine MI.gort_one ?_ | refine MI.gort_cons ?_ | refine MI.gt_val ?_ | refine MI.gifs_nil ?_ | refine MI.gifs_cons ?_ | refine MI.gif_true ?_ | refine MI.gif_false ?_ | refine MI.gif_not ?_ | refine MI.gb_add ?_ | refine MI.gb_sub ?_ | refine MI.gm_lt ?_ | refine MI.gm_le ?_ | refine MI.gm_gt ?_ | refine MI.gm_ge ?_ | refine MI.gm_eq ?_ | refine MI.gm_ne ?_ | refine MI.gm_seq ?_ | refine MI.gtr_bl ?_ | refine MI.gtr_int ?_ | refine MI.gbi_int_int ?_ | refine MI.gbi_int_bool ?_ | refine MI.gbi_int_tup ?_ | refine MI.gbi_int_list ?_ | refine MI.gbi_int_dict ?_ | refine MI.gbi_tup_tup ?_ | refine MI.gbi_bl_tup ?_ | refine MI.gbi_bl_list ?_ | refine MI.gbi_bl_dict ?_ | refine MI.gbi_bl_bool ?_ | refine MI.gbi_len_tup ?_ | refine MI.gbi_int1 ?_ | refine MI.gbi_max ?_)
      | refine gx_dct hD1 rfl ?_
      | refine gm_nenil hL1 hx ?_
      | refine gb_mul (mulOk_of (a := 64) (b := 64) (by omega) (by omega) (by decide)) ?_
      | with_reducible refine MI.gv_tup ?_
      | with_reducible refine MI.gv_lst ?_
      | with_reducible refine MI.gb_mod (by first | decide | omega) ?_
      | with_reducible refine MI.gb_div (by first | decide | assumption) ?_
      | with_reducible refine MI.gb_mul (by first | decide | assumption) ?_
      | with_reducible refine MI.gb_pow (by decide) ?_
      | with_reducible refine MI.gif_dec_t (by first | assumption | omega | decide) ?_
      | with_reducible refine MI.gif_dec_f (by first | assumption | omega | decide) ?_
      | refine MI.gif_t rfl ?_
      | refine MI.gif_f rfl ?_
      | with_reducible refine MI.grg_of (by omega) (by omega) ?_
      | refine MI.gx_of rfl ?_
      | refine MI.gbi_of rfl ?_
      | refine ⟨_, rfl, ?_⟩
      | refine ⟨_, _, rfl, rfl, ?_⟩
      | refine MI.glc_next rfl ?_
      | refine MI.glc_end rfl ?_
      | refine MI.glf_next rfl ?_
      | refine MI.glf_end rfl ?_
      | refine ⟨Nat.le_of_ble_eq_true rfl, ?_⟩)
    exact q _ _ (Int.emod_nonneg _ (by omega)) (Int.emod_lt_of_pos _ hm) ⟨⟨m, n + 1, hD1, m0, m1, by omega, by omega⟩, ⟨_, hL1, hx, hlen⟩, hne⟩ hF1
  · rw [List.concat_eq_append] at hL hx hlen hL1
    have hc : ∃ z, c = .int z := by
      rw [List.all_append] at hx
      have := (Bool.and_eq_true_iff.mp hx).2
      cases c <;> first | exact ⟨_, rfl⟩ | (simp [isIntP] at this)
    obtain ⟨z, rfl⟩ := hc
    have hxy : ys.all isIntP = true := by
      rw [List.all_append] at hx
      exact (Bool.and_eq_true_iff.mp hx).1
    have hly : ys.length < 64 := by simp at hlen; omega
    repeat (first
      | with_reducible (first | refine MI.gss_cons ?_ | refine MI.gss_nil ?_ | refine MI.gn_next ?_ | refine MI.gn_ret ?_ | refine MI.gn_brk ?_ | refine MI.gn_cont ?_ | refine MI.gk_next ?_ | refine MI.gk_cont ?_ | refine MI.gk_brk ?_ | refine MI.gk_ret ?_ | refine MI.gf_ret ?_ | refine MI.gf_next ?_ | refine MI.gs_asg ?_ | refine MI.gs_asgT ?_ | refine MI.gs_par ?_ | refine MI.gs_put ?_ | refine MI.gs_if ?_ | refine MI.gs_ret ?_ | refine MI.gs_retN ?_ | refine MI.gs_expr ?_ | refine MI.gs_pass ?_ | refine MI.gs_brk ?_ | refine MI.gs_cont ?_ | refine MI.gs_while ?_ | refine MI.gs_for ?_ | refine MI.ge_of ?_ | refine MI.ga_val ?_ | refine MI.ga_new ?_ | refine MI.gl_nil ?_ | refine MI.gl_cons ?_ | refine MI.gr_nil ?_ | refine MI.gr_cons ?_ | refine MI.gi_rng ?_ | refine MI.gi_of ?_ | refine MI.gv_name ?_ | refine MI.gv_int ?_ | refine MI.gv_bl ?_ | refine MI.gv_str ?_ | refine MI.gv_non ?_ | refine MI.gv_ty ?_ | refine MI.gv_glob ?_ | refine MI.gv_bin ?_ | refine MI.gv_neg ?_ | refine MI.gv_not ?_ | refine MI.gv_and ?_ | refine MI.gv_or ?_ | refine MI.gand_one ?_ | refine MI.gand_cons ?_ | refine MI.gor_one ?_ | refine MI.gor_cons ?_ | refine MI.gv_cmp ?_ | refine MI.gv_chain ?_ | refine MI.gv_ife ?_ | refine MI.gv_idx ?_ | refine MI.gv_slice ?_ | refine MI.go_none ?_ | refine MI.go_some ?_ | refine MI.gv_rev ?_ | refine MI.gv_call ?_ | refine MI.gv_callK ?_ | refine MI.gv_bi ?_ | refine MI.gv_comp ?_ | refine MI.gv_pop ?_ | refine MI.gv_append ?_ | refine MI.gv_dct ?_ | refine MI.gt_not ?_ | refine MI.gt_and ?_ | refine MI.gt_or ?_ | refine MI.gandt_one ?_ | refine MI.gandt_cons ?_ | refine MI.gort_one ?_ | refine MI.gort_cons ?_ | refine MI.gt_val ?_ | refine MI.gifs_nil ?_ | refine MI.gifs_cons ?_ | refine MI.gif_true ?_ | refine MI.gif_false ?_ | refine MI.gif_not ?_ | refine MI.gb_add ?_ | refine MI.gb_sub ?_ | refine MI.gm_lt ?_ | refine MI.gm_le ?_ | refine MI.gm_gt ?_ | refine MI.gm_ge ?_ | refine MI.gm_eq ?_ | refine MI.gm_ne ?_ | refine MI.gm_seq ?_ | refine MI.gtr_bl ?_ | refine MI.gtr_int ?_ | refine MI.gbi_int_int ?_ | refine MI.gbi_int_bool ?_ | refine MI.gbi_int_tup ?_ | refine MI.gbi_int_list ?_ | refine MI.gbi_int_dict ?_ | refine MI.gbi_tup_tup ?_ | refine MI.gbi_bl_tup ?_ | refine MI.gbi_bl_list ?_ | refine MI.gbi_bl_dict ?_ | refine MI.gbi_bl_bool ?_ | refine MI.gbi_len_tup ?_ | refine MI.gbi_int1 ?_ | refine MI.gbi_max ?_)
      | refine gx_dct hD1 rfl ?_
      | refine gm_nenil hL1 hx ?_
      | refine gif_f isEmpty_concat ?_
      | refine gb_mul (mulOk_of (a := 64) (b := 64) (by omega) (by omega) (by decide)) ?_
      | refine ⟨L, _, _, rfl, hL1, last_concat, ?_⟩
      | with_reducible refine MI.gv_tup ?_
      | with_reducible refine MI.gv_lst ?_
      | with_reducible refine MI.gb_mod (by first | decide | omega) ?_
      | with_reducible refine MI.gb_div (by first | decide | assumption) ?_
      | with_reducible refine MI.gb_mul (by first | decide | assumption) ?_
      | with_reducible refine MI.gb_pow (by decide) ?_
      | with_reducible refine MI.gif_dec_t (by first | assumption | omega | decide) ?_
      | with_reducible refine MI.gif_dec_f (by first | assumption | omega | decide) ?_
      | refine MI.gif_t rfl ?_
      | refine MI.gif_f rfl ?_
      | with_reducible refine MI.grg_of (by omega) (by omega) ?_
      | refine MI.gx_of rfl ?_
      | refine MI.gbi_of rfl ?_
      | refine ⟨_, rfl, ?_⟩
      | refine ⟨_, _, rfl, rfl, ?_⟩
      | refine MI.glc_next rfl ?_
      | refine MI.glc_end rfl ?_
      | refine MI.glf_next rfl ?_
      | refine MI.glf_end rfl ?_
      | refine ⟨Nat.le_of_ble_eq_true rfl, ?_⟩)
    rw [List.dropLast_concat]
    generalize hst2 : st1.set L (.lst ys) = st2
    have hD2 : st2[D]? = some (.dct (deckK (.ref L) (.int m) (.int (n + 1)))) := by rw [← hst2]; exact at_ne (Ne.symm hne) hD1
    have hL2 : st2[L]? = some (.lst ys) := by rw [← hst2]; exact at_self hL1
    have hF2 : Fr D L st st2 := by
      refine hF1.trans ?_
      rw [← hst2]
      exact ⟨by simp, fun i h1 h2 h3 => at_ne (Ne.symm h2) rfl⟩
    repeat (first
      | with_reducible (first | refine MI.gss_cons ?_ | refine MI.gss_nil ?_ | refine MI.gn_next ?_ | refine MI.gn_ret ?_ | refine MI.gn_brk ?_ | refine MI.gn_cont ?_ | refine MI.gk_next ?_ | refine MI.gk_cont ?_ | refine MI.gk_brk ?_ | refine MI.gk_ret ?_ | refine MI.gf_ret ?_ | refine MI.gf_next ?_ | refine MI.gs_asg ?_ | refine MI.gs_asgT ?_ | refine MI.gs_par ?_ | refine MI.gs_put ?_ | refine MI.gs_if ?_ | refine MI.gs_ret ?_ | refine MI.gs_retN ?_ | refine MI.gs_expr ?_ | refine MI.gs_pass ?_ | refine MI.gs_brk ?_ | refine MI.gs_cont ?_ | refine MI.gs_while ?_ | refine MI.gs_for ?_ | refine MI.ge_of ?_ | refine MI.ga_val ?_ | refine MI.ga_new ?_ | refine MI.gl_nil ?_ | refine MI.gl_cons ?_ | refine MI.gr_nil ?_ | refine MI.gr_cons ?_ | refine MI.gi_rng ?_ | refine MI.gi_of ?_ | refine MI.gv_name ?_ | refine MI.gv_int ?_ | refine MI.gv_bl ?_ | refine MI.gv_str ?_ | refine MI.gv_non ?_ | refine MI.gv_ty ?_ | refine MI.gv_glob ?_ | refine MI.gv_bin ?_ | refine MI.gv_neg ?_ | refine MI.gv_not ?_ | refine MI.gv_and ?_ | refine MI.gv_or ?_ | refine MI.gand_one ?_ | refine MI.gand_cons ?_ | refine MI.gor_one ?_ | refine MI.gor_cons ?_ | refine MI.gv_cmp ?_ | refine MI.gv_chain ?_ | refine MI.gv_ife ?_ | refine MI.gv_idx ?_ | refine MI.gv_slice ?_ | refine MI.go_none ?_ | refine MI.go_some ?_ | refine MI.gv_rev ?_ | refine MI.gv_call ?_ | refine MI.gv_callK ?_ | refine MI.gv_bi ?_ | refine MI.gv_comp ?_ | refine MI.gv_pop ?_ | refine MI.gv_append ?_ | refine MI.gv_dct ?_ | refine MI.gt_not ?_ | refine MI.gt_and ?_ | refine MI.gt_or ?_ | refine MI.gandt_one ?_ | refine MI.gandt_cons ?_ | refine MI.gort_one ?_ | refine MI.gort_cons ?_ | refine MI.gt_val ?_ | refine MI.gifs_nil ?_ | refine MI.gifs_cons ?_ | refine MI.gif_true ?_ | refine MI.gif_false ?_ | refine MI.gif_not ?_ | refine MI.gb_add ?_ | refine MI.gb_sub ?_ | refine MI.gm_lt ?_ | refine MI.gm_le ?_ | refine MI.gm_gt ?_ | refine MI.gm_ge ?_ | refine MI.gm_eq ?_ | refine MI.gm_ne ?_ | refine MI.gm_seq ?_ | refine MI.gtr_bl ?_ | refine MI.gtr_int ?_ | refine MI.gbi_int_int ?_ | refine MI.gbi_int_bool ?_ | refine MI.gbi_int_tup ?_ | refine MI.gbi_int_list ?_ | refine MI.gbi_int_dict ?_ | refine MI.gbi_tup_tup ?_ | refine MI.gbi_bl_tup ?_ | refine MI.gbi_bl_list ?_ | refine MI.gbi_bl_dict ?_ | refine MI.gbi_bl_bool ?_ | refine MI.gbi_len_tup ?_ | refine MI.gbi_int1 ?_ | refine MI.gbi_max ?_)
      | with_reducible refine MI.gv_tup ?_
      | with_reducible refine MI.gv_lst ?_
      | with_reducible refine MI.gb_mod (by first | decide | omega) ?_
      | with_reducible refine MI.gb_div (by first | decide | assumption) ?_
      | with_reducible refine MI.gb_mul (by first | decide | assumption) ?_
      | with_reducible refine MI.gb_pow (by decide) ?_
      | with_reducible refine MI.gif_dec_t (by first | assumption | omega | decide) ?_
      | with_reducible refine MI.gif_dec_f (by first | assumption | omega | decide) ?_
      | refine MI.gif_t rfl ?_
      | refine MI.gif_f rfl ?_
      | with_reducible refine MI.grg_of (by omega) (by omega) ?_
      | refine MI.gx_of rfl ?_
      | refine MI.gbi_of rfl ?_
      | refine ⟨_, rfl, ?_⟩
      | refine ⟨_, _, rfl, rfl, ?_⟩
      | refine MI.glc_next rfl ?_
      | refine MI.glc_end rfl ?_
      | refine MI.glf_next rfl ?_
      | refine MI.glf_end rfl ?_
      | refine ⟨Nat.le_of_ble_eq_true rfl, ?_⟩)
    refine gif_dec (fun hz => ?_) (fun hz => ?_)
    · repeat (first
        | with_reducible (first | refine MI.gss_cons ?_ | refine MI.gss_nil ?_ | refine MI.gn_next ?_ | refine MI.gn_ret ?_ | refine MI.gn_brk ?_ | refine MI.gn_cont ?_ | refine MI.gk_next ?_ | refine MI.gk_cont ?_ | refine MI.gk_brk ?_ | refine MI.gk_ret ?_ | refine MI.gf_ret ?_ | refine MI.gf_next ?_ | refine MI.gs_asg ?_ | refine MI.gs_asgT ?_ | refine MI.gs_par ?_ | refine MI.gs_put ?_ | refine MI.gs_if ?_ | refine MI.gs_ret ?_ | refine MI.gs_retN ?_ | refine MI.gs_expr ?_ | refine MI.gs_pass ?_ | refine MI.gs_brk ?_ | refine MI.gs_cont ?_ | refine MI.gs_while ?_ | refine MI.gs_for ?_ | refine MI.ge_of ?_ | refine MI.ga_val ?_ | refine MI.ga_new ?_ | refine MI.gl_nil ?_ | refine MI.gl_cons ?_ | refine MI.gr_nil ?_ | refine MI.gr_cons ?_ | refine MI.gi_rng ?_ | refine MI.gi_of ?_ | refine MI.gv_name ?_ | refine MI.gv_int ?_ | refine MI.gv_bl ?_ | refine MI.gv_str ?_ | refine MI.gv_non ?_ | refine MI.gv_ty ?_ | refine MI.gv_glob ?_ | refine MI.gv_bin ?_ | refine MI.gv_neg ?_ | refine MI.gv_not ?_ | refine MI.gv_and ?_ | refine MI.gv_or ?_ | refine MI.gand_one ?_ | refine MI.gand_cons ?_ | refine MI.gor_one ?_ | refine MI.gor_cons ?_ | refine MI.gv_cmp ?_ | refine MI.gv_chain ?_ | refine MI.gv_ife ?_ | refine MI.gv_idx ?_ | refine MI.gv_slice ?_ | refine MI.go_none ?_ | refine MI.go_some ?_ | refine MI.gv_rev ?_ | refine MI.gv_call ?_ | refine MI.gv_callK ?_ | refine MI.gv_bi ?_ | refine MI.gv_comp ?_ | refine MI.gv_pop ?_ | refine MI.gv_append ?_ | refine MI.gv_dct ?_ | refine MI.gt_not ?_ | refine MI.gt_and ?_ | refine MI.gt_or ?_ | refine MI.gandt_one ?_ | refine MI.gandt_cons ?_ | refine MI.gort_one ?_ | refine MI.gort_cons ?_ | refine MI.gt_val ?_ | refine MI.gifs_nil ?_ | refine MI.gifs_cons ?_ | refine MI.gif_true ?_ | refine MI.gif_false ?_ | refine MI.gif_not ?_ | refine MI.gb_add ?_ | refine MI.gb_sub ?_ | refine MI.gm_lt ?_ | refine MI.gm_le ?_ | refine MI.gm_gt ?_ | refine MI.gm_ge ?_ | refine MI.gm_eq ?_ | refine MI.gm_ne ?_ | refine MI.gm_seq ?_ | refine MI.gtr_bl ?_ | refine MI.gtr_int ?_ | refine MI.gbi_int_int ?_ | refine MI.gbi_int_bool ?_ | refine MI.gbi_int_tup ?_ | refine MI.gbi_int_list ?_ | refine MI.gbi_int_dict ?_ | refine MI.gbi_tup_tup ?_ | refine MI.gbi_bl_tup ?_ | refine MI.gbi_bl_list ?_ | refine MI.gbi_bl_dict ?_ | refine MI.gbi_bl_bool ?_ | refine MI.gbi_len_tup ?_ | refine MI.gbi_int1 ?_ | refine MI.gbi_max ?_)
        | refine gx_dct hD2 rfl ?_
        | refine gb_div (divOk_of (by omega) (by omega)) ?_
        | refine ⟨L, _, _, rfl, hL2, hL2, Nat.lt_trans hly (by decide), ?_⟩
        | with_reducible refine MI.gv_tup ?_
        | with_reducible refine MI.gv_lst ?_
        | with_reducible refine MI.gb_mod (by first | decide | omega) ?_
        | with_reducible refine MI.gb_div (by first | decide | assumption) ?_
        | with_reducible refine MI.gb_mul (by first | decide | assumption) ?_
        | with_reducible refine MI.gb_pow (by decide) ?_
        | with_reducible refine MI.gif_dec_t (by first | assumption | omega | decide) ?_
        | with_reducible refine MI.gif_dec_f (by first | assumption | omega | decide) ?_
        | refine MI.gif_t rfl ?_
        | refine MI.gif_f rfl ?_
        | with_reducible refine MI.grg_of (by omega) (by omega) ?_
        | refine MI.gx_of rfl ?_
        | refine MI.gbi_of rfl ?_
        | refine ⟨_, rfl, ?_⟩
        | refine ⟨_, _, rfl, rfl, ?_⟩
        | refine MI.glc_next rfl ?_
        | refine MI.glc_end rfl ?_
        | refine MI.glf_next rfl ?_
        | refine MI.glf_end rfl ?_
        | refine ⟨Nat.le_of_ble_eq_true rfl, ?_⟩)
      refine q _ _ (Int.emod_nonneg _ (by omega)) (Int.emod_lt_of_pos _ hm) ⟨⟨m, n + 1, at_ne (Ne.symm hne) hD2, m0, m1, by omega, by omega⟩, ⟨_, at_self hL2, ?_, ?_⟩, hne⟩ (hF2.trans ⟨by simp, fun i h1 h2 h3 => at_ne (Ne.symm h2) rfl⟩)
      · rw [List.all_append, hxy]; rfl
      · simp; omega
    · repeat (first
        | with_reducible (first | refine MI.gss_cons ?_ | refine MI.gss_nil ?_ | refine MI.gn_next ?_ | refine MI.gn_ret ?_ | refine MI.gn_brk ?_ | refine MI.gn_cont ?_ | refine MI.gk_next ?_ | refine MI.gk_cont ?_ | refine MI.gk_brk ?_ | refine MI.gk_ret ?_ | refine MI.gf_ret ?_ | refine MI.gf_next ?_ | refine MI.gs_asg ?_ | refine MI.gs_asgT ?_ | refine MI.gs_par ?_ | refine MI.gs_put ?_ | refine MI.gs_if ?_ | refine MI.gs_ret ?_ | refine MI.gs_retN ?_ | refine MI.gs_expr ?_ | refine MI.gs_pass ?_ | refine MI.gs_brk ?_ | refine MI.gs_cont ?_ | refine MI.gs_while ?_ | refine MI.gs_for ?_ | refine MI.ge_of ?_ | refine MI.ga_val ?_ | refine MI.ga_new ?_ | refine MI.gl_nil ?_ | refine MI.gl_cons ?_ | refine MI.gr_nil ?_ | refine MI.gr_cons ?_ | refine MI.gi_rng ?_ | refine MI.gi_of ?_ | refine MI.gv_name ?_ | refine MI.gv_int ?_ | refine MI.gv_bl ?_ | refine MI.gv_str ?_ | refine MI.gv_non ?_ | refine MI.gv_ty ?_ | refine MI.gv_glob ?_ | refine MI.gv_bin ?_ | refine MI.gv_neg ?_ | refine MI.gv_not ?_ | refine MI.gv_and ?_ | refine MI.gv_or ?_ | refine MI.gand_one ?_ | refine MI.gand_cons ?_ | refine MI.gor_one ?_ | refine MI.gor_cons ?_ | refine MI.gv_cmp ?_ | refine MI.gv_chain ?_ | refine MI.gv_ife ?_ | refine MI.gv_idx ?_ | refine MI.gv_slice ?_ | refine MI.go_none ?_ | refine MI.go_some ?_ | refine MI.gv_rev ?_ | refine MI.gv_call ?_ | refine MI.gv_callK ?_ | refine MI.gv_bi ?_ | refine MI.gv_comp ?_ | refine MI.gv_pop ?_ | refine MI.gv_append ?_ | refine MI.gv_dct ?_ | refine MI.gt_not ?_ | refine MI.gt_and ?_ | refine MI.gt_or ?_ | refine MI.gandt_one ?_ | refine MI.gandt_cons ?_ | refine MI.gort_one ?_ | refine MI.gort_cons ?_ | refine MI.gt_val ?_ | refine MI.gifs_nil ?_ | refine MI.gifs_cons ?_ | refine MI.gif_true ?_ | refine MI.gif_false ?_ | refine MI.gif_not ?_ | refine MI.gb_add ?_ | refine MI.gb_sub ?_ | refine MI.gm_lt ?_ | refine MI.gm_le ?_ | refine MI.gm_gt ?_ | refine MI.gm_ge ?_ | refine MI.gm_eq ?_ | refine MI.gm_ne ?_ | refine MI.gm_seq ?_ | refine MI.gtr_bl ?_ | refine MI.gtr_int ?_ | refine MI.gbi_int_int ?_ | refine MI.gbi_int_bool ?_ | refine MI.gbi_int_tup ?_ | refine MI.gbi_int_list ?_ | refine MI.gbi_int_dict ?_ | refine MI.gbi_tup_tup ?_ | refine MI.gbi_bl_tup ?_ | refine MI.gbi_bl_list ?_ | refine MI.gbi_bl_dict ?_ | refine MI.gbi_bl_bool ?_ | refine MI.gbi_len_tup ?_ | refine MI.gbi_int1 ?_ | refine MI.gbi_max ?_)
        | refine gx_dct hD2 rfl ?_
        | refine gb_mul (mulOk_of (a := 64) (b := 64) (by omega) (by omega) (by decide)) ?_
        | with_reducible refine MI.gv_tup ?_
        | with_reducible refine MI.gv_lst ?_
        | with_reducible refine MI.gb_mod (by first | decide | omega) ?_
        | with_reducible refine MI.gb_div (by first | decide | assumption) ?_
        | with_reducible refine MI.gb_mul (by first | decide | assumption) ?_
        | with_reducible refine MI.gb_pow (by decide) ?_
        | with_reducible refine MI.gif_dec_t (by first | assumption | omega | decide) ?_
        | with_reducible refine MI.gif_dec_f (by first | assumption | omega | decide) ?_
        | refine MI.gif_t rfl ?_
        | refine MI.gif_f rfl ?_
        | with_reducible refine MI.grg_of (by omega) (by omega) ?_
        | refine MI.gx_of rfl ?_
        | refine MI.gbi_of rfl ?_
        | refine ⟨_, rfl, ?_⟩
        | refine ⟨_, _, rfl, rfl, ?_⟩
        | refine MI.glc_next rfl ?_
        | refine MI.glc_end rfl ?_
        | refine MI.glf_next rfl ?_
        | refine MI.glf_end rfl ?_
        | refine ⟨Nat.le_of_ble_eq_true rfl, ?_⟩)
      exact q _ _ (Int.emod_nonneg _ (by omega)) (Int.emod_lt_of_pos _ hm) ⟨⟨m, n + 1, hD2, m0, m1, by omega, by omega⟩, ⟨_, hL2, hxy, by omega⟩, hne⟩ hF2
theorem cut_mem {xs : List PV} {lo hi : Option Int} {x : PV} (h : x ∈ cutP xs lo hi) : x ∈ xs := List.mem_of_mem_drop (List.mem_of_mem_take h)
theorem cut_len {xs : List PV} {lo hi : Option Int} : (cutP xs lo hi).length ≤ xs.length := by
  unfold cutP
  simp only [List.length_take, List.length_drop]
  omega
theorem s_deck {ns : List Int} (hl : ns.length ≤ 63) (q : ∀ st', DeckSt 1 0 0 st' → Q (.ref 1) st') : GC G (d + 1) 19 [.frz (ns.map .int)] [] Q := by
  refine c_law_deck ?_
  repeat (first
    | with_reducible (first | refine MI.gss_cons ?_ | refine MI.gss_nil ?_ | refine MI.gn_next ?_ | refine MI.gn_ret ?_ | refine MI.gn_brk ?_ | refine MI.gn_cont ?_ | refine MI.gk_next ?_ | refine MI.gk_cont ?_ | refine MI.gk_brk ?_ | refine MI.gk_ret ?_ | refine MI.gf_ret ?_ | refine MI.gf_next ?_ | refine MI.gs_asg ?_ | refine MI.gs_asgT ?_ | refine MI.gs_par ?_ | refine MI.gs_put ?_ | refine MI.gs_if ?_ | refine MI.gs_ret ?_ | refine MI.gs_retN ?_ | refine MI.gs_expr ?_ | refine MI.gs_pass ?_ | refine MI.gs_brk ?_ | refine MI.gs_cont ?_ | refine MI.gs_while ?_ | refine MI.gs_for ?_ | refine MI.ge_of ?_ | refine MI.ga_val ?_ | refine MI.ga_new ?_ | refine MI.gl_nil ?_ | refine MI.gl_cons ?_ | refine MI.gr_nil ?_ | refine MI.gr_cons ?_ | refine MI.gi_rng ?_ | refine MI.gi_of ?_ | refine MI.gv_name ?_ | refine MI.gv_int ?_ | refine MI.gv_bl ?_ | refine MI.gv_str ?_ | refine MI.gv_non ?_ | refine MI.gv_ty ?_ | refine MI.gv_glob ?_ | refine MI.gv_bin ?_ | refine MI.gv_neg ?_ | refine MI.gv_not ?_ | refine MI.gv_and ?_ | refine MI.gv_or ?_ | refine MI.gand_one ?_ | refine MI.gand_cons ?_ | refine MI.gor_one ?_ | refine MI.gor_cons ?_ | refine MI.gv_cmp ?_ | refine MI.gv_chain ?_ | refine MI.gv_ife ?_ | refine MI.gv_idx ?_ | refine MI.gv_slice ?_ | refine MI.go_none ?_ | refine MI.go_some ?_ | refine MI.gv_rev ?_ | refine MI.gv_call ?_ | refine MI.gv_callK ?_ | refine MI.gv_bi ?_ | refine MI.gv_comp ?_ | refine MI.gv_pop ?_ | refine MI.gv_append ?_ | refine MI.gv_dct ?_ | refine MI.gt_not ?_ | refine MI.gt_and ?_ | refine MI.gt_or ?_ | refine MI.gandt_one ?_ | refine MI.gandt_cons ?_ | refine MI.gort_one ?_ | refine MI.gort_cons ?_ | refine MI.gt_val ?_ | refine MI.gifs_nil ?_ | refine MI.gifs_cons ?_ | refine MI.gif_true ?_ | refine MI.gif_false ?_ | refine MI.gif_not ?_ | refine MI.gb_add ?_ | refine MI.gb_sub ?_ | refine MI.gm_lt ?_ | refine MI.gm_le ?_ | refine MI.gm_gt ?_ | refine MI.gm_ge ?_ | refine MI.gm_eq ?_ | refine MI.gm_ne ?_ | refine MI.gm_seq ?_ | refine MI.gtr_bl ?_ | refine MI.gtr_int ?_ | refine MI.gbi_int_int ?_ | refine MI.gbi_int_bool ?_ | refine MI.gbi_int_tup ?_ | refine MI.gbi_int_list ?_ | refine MI.gbi_int_dict ?_ | refine MI.gbi_tup_tup ?_ | refine MI.gbi_bl_tup ?_ | refine MI.gbi_bl_list ?_ | refine MI.gbi_bl_dict ?_ | refine MI.gbi_bl_bool ?_ | refine MI.gbi_len_tup ?_ | refine MI.gbi_int1 ?_ | refine MI.gbi_max ?_)
    | with_reducible refine MI.gv_tup ?_
    | with_reducible refine MI.gv_lst ?_
    | with_reducible refine MI.gb_mod (by first | decide | omega) ?_
    | with_reducible refine MI.gb_div (by first | decide | assumption) ?_
    | with_reducible refine MI.gb_mul (by first | decide | assumption) ?_
    | with_reducible refine MI.gb_pow (by decide) ?_
    | with_reducible refine MI.gif_dec_t (by first | assumption | omega | decide) ?_
    | with_reducible refine MI.gif_dec_f (by first | assumption | omega | decide) ?_
    | refine MI.gif_t rfl ?_
    | refine MI.gif_f rfl ?_
    | with_reducible refine MI.grg_of (by omega) (by omega) ?_
    | refine MI.gx_of rfl ?_
    | refine MI.gbi_of rfl ?_
    | refine ⟨_, rfl, ?_⟩
    | refine ⟨_, _, rfl, rfl, ?_⟩
    | refine MI.glc_next rfl ?_
    | refine MI.glc_end rfl ?_
    | refine MI.glf_next rfl ?_
    | refine MI.glf_end rfl ?_
    | refine ⟨Nat.le_of_ble_eq_true rfl, ?_⟩)
  have hx : ∀ x ∈ cutP (ns.map PV.int) none (some 63), ∃ z, x = PV.int z := fun x h => by
    obtain ⟨z, _, rfl⟩ := List.mem_map.mp (cut_mem h)
    exact ⟨z, rfl⟩
  have hc : (cutP (ns.map PV.int) none (some 63)).length ≤ 63 := Nat.le_trans cut_len (by rw [List.length_map]; exact hl)
  refine glf_all (fun i env st => ∃ m z, env = [some (.frz (ns.map .int)), some (.int m), z] ∧ 0 ≤ m ∧ m < 2147483648 ∧ st = []) ⟨15376001, none, rfl, by decide, by decide, rfl⟩ ?_ ?_
  · rintro i x env st hi ⟨m, z, rfl, m0, m1, rfl⟩
    obtain ⟨c, rfl⟩ := hx x (List.mem_of_getElem? hi)
    refine ⟨_, rfl, ?_⟩
    repeat (first
      | with_reducible (first | refine MI.gss_cons ?_ | refine MI.gss_nil ?_ | refine MI.gn_next ?_ | refine MI.gn_ret ?_ | refine MI.gn_brk ?_ | refine MI.gn_cont ?_ | refine MI.gk_next ?_ | refine MI.gk_cont ?_ | refine MI.gk_brk ?_ | refine MI.gk_ret ?_ | refine MI.gf_ret ?_ | refine MI.gf_next ?_ | refine MI.gs_asg ?_ | refine MI.gs_asgT ?_ | refine MI.gs_par ?_ | refine MI.gs_put ?_ | refine MI.gs_if ?_ | refine MI.gs_ret ?_ | refine MI.gs_retN ?_ | refine MI.gs_expr ?_ | refine MI.gs_pass ?_ | refine MI.gs_brk ?_ | refine MI.gs_cont ?_ | refine MI.gs_while ?_ | refine MI.gs_for ?_ | refine MI.ge_of ?_ | refine MI.ga_val ?_ | refine MI.ga_new ?_ | refine MI.gl_nil ?_ | refine MI.gl_cons ?_ | refine MI.gr_nil ?_ | refine MI.gr_cons ?_ | refine MI.gi_rng ?_ | refine MI.gi_of ?_ | refine MI.gv_name ?_ | refine MI.gv_int ?_ | refine MI.gv_bl ?_ | refine MI.gv_str ?_ | refine MI.gv_non ?_ | refine MI.gv_ty ?_ | refine MI.gv_glob ?_ | refine MI.gv_bin ?_ | refine MI.gv_neg ?_ | refine MI.gv_not ?_ | refine MI.gv_and ?_ | refine MI.gv_or ?_ | refine MI.gand_one ?_ | refine MI.gand_cons ?_ | refine MI.gor_one ?_ | refine MI.gor_cons ?_ | refine MI.gv_cmp ?_ | refine MI.gv_chain ?_ | refine MI.gv_ife ?_ | refine MI.gv_idx ?_ | refine MI.gv_slice ?_ | refine MI.go_none ?_ | refine MI.go_some ?_ | refine MI.gv_rev ?_ | refine MI.gv_call ?_ | refine MI.gv_callK ?_ | refine MI.gv_bi ?_ | refine MI.gv_comp ?_ | refine MI.gv_pop ?_ | refine MI.gv_append ?_ | refine MI.gv_dct ?_ | refine MI.gt_not ?_ | refine MI.gt_and ?_ | refine MI.gt_or ?_ | refine MI.gandt_one ?_ | refine MI.gandt_cons ?_ | refine MI.gort_one ?_ | refine MI.gort_cons ?_ | refine MI.gt_val ?_ | refine MI.gifs_nil ?_ | refine MI.gifs_cons ?_ | refine MI.gif_true ?_ | refine MI.gif_false ?_ | refine MI.gif_not ?_ | refine MI.gb_add ?_ | refine MI.gb_sub ?_ | refine MI.gm_lt ?_ | refine MI.gm_le ?_ | refine MI.gm_gt ?_ | refine MI.gm_ge ?_ | refine MI.gm_eq ?_ | refine MI.gm_ne ?_ | refine MI.gm_seq ?_ | refine MI.gtr_bl ?_ | refine MI.gtr_int ?_ | refine MI.gbi_int_int ?_ | refine MI.gbi_int_bool ?_ | refine MI.gbi_int_tup ?_ | refine MI.gbi_int_list ?_ | refine MI.gbi_int_dict ?_ | refine MI.gbi_tup_tup ?_ | refine MI.gbi_bl_tup ?_ | refine MI.gbi_bl_list ?_ | refine MI.gbi_bl_dict ?_ | refine MI.gbi_bl_bool ?_ | refine MI.gbi_len_tup ?_ | refine MI.gbi_int1 ?_ | refine MI.gbi_max ?_)
      | refine gb_mul (mulOk_of (a := 64) (b := 64) (by omega) (by omega) (by decide)) ?_
      | with_reducible refine MI.gv_tup ?_
      | with_reducible refine MI.gv_lst ?_
      | with_reducible refine MI.gb_mod (by first | decide | omega) ?_
      | with_reducible refine MI.gb_div (by first | decide | assumption) ?_
      | with_reducible refine MI.gb_mul (by first | decide | assumption) ?_
      | with_reducible refine MI.gb_pow (by decide) ?_
      | with_reducible refine MI.gif_dec_t (by first | assumption | omega | decide) ?_
      | with_reducible refine MI.gif_dec_f (by first | assumption | omega | decide) ?_
      | refine MI.gif_t rfl ?_
      | refine MI.gif_f rfl ?_
      | with_reducible refine MI.grg_of (by omega) (by omega) ?_
      | refine MI.gx_of rfl ?_
      | refine MI.gbi_of rfl ?_
      | refine ⟨_, rfl, ?_⟩
      | refine ⟨_, _, rfl, rfl, ?_⟩
      | refine MI.glc_next rfl ?_
      | refine MI.glc_end rfl ?_
      | refine MI.glf_next rfl ?_
      | refine MI.glf_end rfl ?_
      | refine ⟨Nat.le_of_ble_eq_true rfl, ?_⟩)
    exact ⟨_, _, rfl, Int.emod_nonneg _ (by decide), by have := Int.emod_lt_of_pos (m * 48271 + c % 2147483563 + 32) (b := 2147483629) (by decide); omega, rfl⟩
  · rintro env st ⟨m, z, rfl, m0, m1, rfl⟩
    repeat (first
      | with_reducible (first | refine MI.gss_cons ?_ | refine MI.gss_nil ?_ | refine MI.gn_next ?_ | refine MI.gn_ret ?_ | refine MI.gn_brk ?_ | refine MI.gn_cont ?_ | refine MI.gk_next ?_ | refine MI.gk_cont ?_ | refine MI.gk_brk ?_ | refine MI.gk_ret ?_ | refine MI.gf_ret ?_ | refine MI.gf_next ?_ | refine MI.gs_asg ?_ | refine MI.gs_asgT ?_ | refine MI.gs_par ?_ | refine MI.gs_put ?_ | refine MI.gs_if ?_ | refine MI.gs_ret ?_ | refine MI.gs_retN ?_ | refine MI.gs_expr ?_ | refine MI.gs_pass ?_ | refine MI.gs_brk ?_ | refine MI.gs_cont ?_ | refine MI.gs_while ?_ | refine MI.gs_for ?_ | refine MI.ge_of ?_ | refine MI.ga_val ?_ | refine MI.ga_new ?_ | refine MI.gl_nil ?_ | refine MI.gl_cons ?_ | refine MI.gr_nil ?_ | refine MI.gr_cons ?_ | refine MI.gi_rng ?_ | refine MI.gi_of ?_ | refine MI.gv_name ?_ | refine MI.gv_int ?_ | refine MI.gv_bl ?_ | refine MI.gv_str ?_ | refine MI.gv_non ?_ | refine MI.gv_ty ?_ | refine MI.gv_glob ?_ | refine MI.gv_bin ?_ | refine MI.gv_neg ?_ | refine MI.gv_not ?_ | refine MI.gv_and ?_ | refine MI.gv_or ?_ | refine MI.gand_one ?_ | refine MI.gand_cons ?_ | refine MI.gor_one ?_ | refine MI.gor_cons ?_ | refine MI.gv_cmp ?_ | refine MI.gv_chain ?_ | refine MI.gv_ife ?_ | refine MI.gv_idx ?_ | refine MI.gv_slice ?_ | refine MI.go_none ?_ | refine MI.go_some ?_ | refine MI.gv_rev ?_ | refine MI.gv_call ?_ | refine MI.gv_callK ?_ | refine MI.gv_bi ?_ | refine MI.gv_comp ?_ | refine MI.gv_pop ?_ | refine MI.gv_append ?_ | refine MI.gv_dct ?_ | refine MI.gt_not ?_ | refine MI.gt_and ?_ | refine MI.gt_or ?_ | refine MI.gandt_one ?_ | refine MI.gandt_cons ?_ | refine MI.gort_one ?_ | refine MI.gort_cons ?_ | refine MI.gt_val ?_ | refine MI.gifs_nil ?_ | refine MI.gifs_cons ?_ | refine MI.gif_true ?_ | refine MI.gif_false ?_ | refine MI.gif_not ?_ | refine MI.gb_add ?_ | refine MI.gb_sub ?_ | refine MI.gm_lt ?_ | refine MI.gm_le ?_ | refine MI.gm_gt ?_ | refine MI.gm_ge ?_ | refine MI.gm_eq ?_ | refine MI.gm_ne ?_ | refine MI.gm_seq ?_ | refine MI.gtr_bl ?_ | refine MI.gtr_int ?_ | refine MI.gbi_int_int ?_ | refine MI.gbi_int_bool ?_ | refine MI.gbi_int_tup ?_ | refine MI.gbi_int_list ?_ | refine MI.gbi_int_dict ?_ | refine MI.gbi_tup_tup ?_ | refine MI.gbi_bl_tup ?_ | refine MI.gbi_bl_list ?_ | refine MI.gbi_bl_dict ?_ | refine MI.gbi_bl_bool ?_ | refine MI.gbi_len_tup ?_ | refine MI.gbi_int1 ?_ | refine MI.gbi_max ?_)
      | with_reducible refine MI.gv_tup ?_
      | with_reducible refine MI.gv_lst ?_
      | with_reducible refine MI.gb_mod (by first | decide | omega) ?_
      | with_reducible refine MI.gb_div (by first | decide | assumption) ?_
      | with_reducible refine MI.gb_mul (by first | decide | assumption) ?_
      | with_reducible refine MI.gb_pow (by decide) ?_
      | with_reducible refine MI.gif_dec_t (by first | assumption | omega | decide) ?_
      | with_reducible refine MI.gif_dec_f (by first | assumption | omega | decide) ?_
      | refine MI.gif_t rfl ?_
      | refine MI.gif_f rfl ?_
      | with_reducible refine MI.grg_of (by omega) (by omega) ?_
      | refine MI.gx_of rfl ?_
      | refine MI.gbi_of rfl ?_
      | refine ⟨_, rfl, ?_⟩
      | refine ⟨_, _, rfl, rfl, ?_⟩
      | refine MI.glc_next rfl ?_
      | refine MI.glc_end rfl ?_
      | refine MI.glf_next rfl ?_
      | refine MI.glf_end rfl ?_
      | refine ⟨Nat.le_of_ble_eq_true rfl, ?_⟩)
    refine glc_all (fun i acc st => acc.all isIntP = true ∧ acc.length = i ∧ i ≤ 63 ∧ st = []) ⟨rfl, rfl, by decide, rfl⟩ ?_ ?_
    · rintro i x acc st hi ⟨h1, h2, h3, rfl⟩
      obtain ⟨c, rfl⟩ := hx x (List.mem_of_getElem? hi)
      have hlt : i < (cutP (ns.map PV.int) none (some 63)).length := (List.getElem?_eq_some_iff.mp hi).1
      refine ⟨_, rfl, ?_⟩
      repeat (first
        | with_reducible (first | refine MI.gss_cons ?_ | refine MI.gss_nil ?_ | refine MI.gn_next ?_ | refine MI.gn_ret ?_ | refine MI.gn_brk ?_ | refine MI.gn_cont ?_ | refine MI.gk_next ?_ | refine MI.gk_cont ?_ | refine MI.gk_brk ?_ | refine MI.gk_ret ?_ | refine MI.gf_ret ?_ | refine MI.gf_next ?_ | refine MI.gs_asg ?_ | refine MI.gs_asgT ?_ | refine MI.gs_par ?_ | refine MI.gs_put ?_ | refine MI.gs_if ?_ | refine MI.gs_ret ?_ | refine MI.gs_retN ?_ | refine MI.gs_expr ?_ | refine MI.gs_pass ?_ | refine MI.gs_brk ?_ | refine MI.gs_cont ?_ | refine MI.gs_while ?_ | refine MI.gs_for ?_ | refine MI.ge_of ?_ | refine MI.ga_val ?_ | refine MI.ga_new ?_ | refine MI.gl_nil ?_ | refine MI.gl_cons ?_ | refine MI.gr_nil ?_ | refine MI.gr_cons ?_ | refine MI.gi_rng ?_ | refine MI.gi_of ?_ | refine MI.gv_name ?_ | refine MI.gv_int ?_ | refine MI.gv_bl ?_ | refine MI.gv_str ?_ | refine MI.gv_non ?_ | refine MI.gv_ty ?_ | refine MI.gv_glob ?_ | refine MI.gv_bin ?_ | refine MI.gv_neg ?_ | refine MI.gv_not ?_ | refine MI.gv_and ?_ | refine MI.gv_or ?_ | refine MI.gand_one ?_ | refine MI.gand_cons ?_ | refine MI.gor_one ?_ | refine MI.gor_cons ?_ | refine MI.gv_cmp ?_ | refine MI.gv_chain ?_ | refine MI.gv_ife ?_ | refine MI.gv_idx ?_ | refine MI.gv_slice ?_ | refine MI.go_none ?_ | refine MI.go_some ?_ | refine MI.gv_rev ?_ | refine MI.gv_call ?_ | refine MI.gv_callK ?_ | refine MI.gv_bi ?_ | refine MI.gv_comp ?_ | refine MI.gv_pop ?_ | refine MI.gv_append ?_ | refine MI.gv_dct ?_ | refine MI.gt_not ?_ | refine MI.gt_and ?_ | refine MI.gt_or ?_ | refine MI.gandt_one ?_ | refine MI.gandt_cons ?_ | refine MI.gort_one ?_ | refine MI.gort_cons ?_ | refine MI.gt_val ?_ | refine MI.gifs_nil ?_ | refine MI.gifs_cons ?_ | refine MI.gif_true ?_ | refine MI.gif_false ?_ | refine MI.gif_not ?_ | refine MI.gb_add ?_ | refine MI.gb_sub ?_ | refine MI.gm_lt ?_ | refine MI.gm_le ?_ | refine MI.gm_gt ?_ | refine MI.gm_ge ?_ | refine MI.gm_eq ?_ | refine MI.gm_ne ?_ | refine MI.gm_seq ?_ | refine MI.gtr_bl ?_ | refine MI.gtr_int ?_ | refine MI.gbi_int_int ?_ | refine MI.gbi_int_bool ?_ | refine MI.gbi_int_tup ?_ | refine MI.gbi_int_list ?_ | refine MI.gbi_int_dict ?_ | refine MI.gbi_tup_tup ?_ | refine MI.gbi_bl_tup ?_ | refine MI.gbi_bl_list ?_ | refine MI.gbi_bl_dict ?_ | refine MI.gbi_bl_bool ?_ | refine MI.gbi_len_tup ?_ | refine MI.gbi_int1 ?_ | refine MI.gbi_max ?_)
        | with_reducible refine MI.gv_tup ?_
        | with_reducible refine MI.gv_lst ?_
        | with_reducible refine MI.gb_mod (by first | decide | omega) ?_
        | with_reducible refine MI.gb_div (by first | decide | assumption) ?_
        | with_reducible refine MI.gb_mul (by first | decide | assumption) ?_
        | with_reducible refine MI.gb_pow (by decide) ?_
        | with_reducible refine MI.gif_dec_t (by first | assumption | omega | decide) ?_
        | with_reducible refine MI.gif_dec_f (by first | assumption | omega | decide) ?_
        | refine MI.gif_t rfl ?_
        | refine MI.gif_f rfl ?_
        | with_reducible refine MI.grg_of (by omega) (by omega) ?_
        | refine MI.gx_of rfl ?_
        | refine MI.gbi_of rfl ?_
        | refine ⟨_, rfl, ?_⟩
        | refine ⟨_, _, rfl, rfl, ?_⟩
        | refine MI.glc_next rfl ?_
        | refine MI.glc_end rfl ?_
        | refine MI.glf_next rfl ?_
        | refine MI.glf_end rfl ?_
        | refine ⟨Nat.le_of_ble_eq_true rfl, ?_⟩)
      refine ⟨Nat.lt_of_le_of_lt (by rw [h2]; exact h3) (by decide : 63 < lim), ?_, by simp [h2], by omega, rfl⟩
      rw [List.all_append, h1]
      rfl
    · rintro acc st ⟨h1, h2, h3, rfl⟩
      repeat (first
        | with_reducible (first | refine MI.gss_cons ?_ | refine MI.gss_nil ?_ | refine MI.gn_next ?_ | refine MI.gn_ret ?_ | refine MI.gn_brk ?_ | refine MI.gn_cont ?_ | refine MI.gk_next ?_ | refine MI.gk_cont ?_ | refine MI.gk_brk ?_ | refine MI.gk_ret ?_ | refine MI.gf_ret ?_ | refine MI.gf_next ?_ | refine MI.gs_asg ?_ | refine MI.gs_asgT ?_ | refine MI.gs_par ?_ | refine MI.gs_put ?_ | refine MI.gs_if ?_ | refine MI.gs_ret ?_ | refine MI.gs_retN ?_ | refine MI.gs_expr ?_ | refine MI.gs_pass ?_ | refine MI.gs_brk ?_ | refine MI.gs_cont ?_ | refine MI.gs_while ?_ | refine MI.gs_for ?_ | refine MI.ge_of ?_ | refine MI.ga_val ?_ | refine MI.ga_new ?_ | refine MI.gl_nil ?_ | refine MI.gl_cons ?_ | refine MI.gr_nil ?_ | refine MI.gr_cons ?_ | refine MI.gi_rng ?_ | refine MI.gi_of ?_ | refine MI.gv_name ?_ | refine MI.gv_int ?_ | refine MI.gv_bl ?_ | refine MI.gv_str ?_ | refine MI.gv_non ?_ | refine MI.gv_ty ?_ | refine MI.gv_glob ?_ | refine MI.gv_bin ?_ | refine MI.gv_neg ?_ | refine MI.gv_not ?_ | refine MI.gv_and ?_ | refine MI.gv_or ?_ | refine MI.gand_one ?_ | refine MI.gand_cons ?_ | refine MI.gor_one ?_ | refine MI.gor_cons ?_ | refine MI.gv_cmp ?_ | refine MI.gv_chain ?_ | refine MI.gv_ife ?_ | refine MI.gv_idx ?_ | refine MI.gv_slice ?_ | refine MI.go_none ?_ | refine MI.go_some ?_ | refine MI.gv_rev ?_ | refine MI.gv_call ?_ | refine MI.gv_callK ?_ | refine MI.gv_bi ?_ | refine MI.gv_comp ?_ | refine MI.gv_pop ?_ | refine MI.gv_append ?_ | refine MI.gv_dct ?_ | refine MI.gt_not ?_ | refine MI.gt_and ?_ | refine MI.gt_or ?_ | refine MI.gandt_one ?_ | refine MI.gandt_cons ?_ | refine MI.gort_one ?_ | refine MI.gort_cons ?_ | refine MI.gt_val ?_ | refine MI.gifs_nil ?_ | refine MI.gifs_cons ?_ | refine MI.gif_true ?_ | refine MI.gif_false ?_ | refine MI.gif_not ?_ | refine MI.gb_add ?_ | refine MI.gb_sub ?_ | refine MI.gm_lt ?_ | refine MI.gm_le ?_ | refine MI.gm_gt ?_ | refine MI.gm_ge ?_ | refine MI.gm_eq ?_ | refine MI.gm_ne ?_ | refine MI.gm_seq ?_ | refine MI.gtr_bl ?_ | refine MI.gtr_int ?_ | refine MI.gbi_int_int ?_ | refine MI.gbi_int_bool ?_ | refine MI.gbi_int_tup ?_ | refine MI.gbi_int_list ?_ | refine MI.gbi_int_dict ?_ | refine MI.gbi_tup_tup ?_ | refine MI.gbi_bl_tup ?_ | refine MI.gbi_bl_list ?_ | refine MI.gbi_bl_dict ?_ | refine MI.gbi_bl_bool ?_ | refine MI.gbi_len_tup ?_ | refine MI.gbi_int1 ?_ | refine MI.gbi_max ?_)
        | with_reducible refine MI.gv_tup ?_
        | with_reducible refine MI.gv_lst ?_
        | with_reducible refine MI.gb_mod (by first | decide | omega) ?_
        | with_reducible refine MI.gb_div (by first | decide | assumption) ?_
        | with_reducible refine MI.gb_mul (by first | decide | assumption) ?_
        | with_reducible refine MI.gb_pow (by decide) ?_
        | with_reducible refine MI.gif_dec_t (by first | assumption | omega | decide) ?_
        | with_reducible refine MI.gif_dec_f (by first | assumption | omega | decide) ?_
        | refine MI.gif_t rfl ?_
        | refine MI.gif_f rfl ?_
        | with_reducible refine MI.grg_of (by omega) (by omega) ?_
        | refine MI.gx_of rfl ?_
        | refine MI.gbi_of rfl ?_
        | refine ⟨_, rfl, ?_⟩
        | refine ⟨_, _, rfl, rfl, ?_⟩
        | refine MI.glc_next rfl ?_
        | refine MI.glc_end rfl ?_
        | refine MI.glf_next rfl ?_
        | refine MI.glf_end rfl ?_
        | refine ⟨Nat.le_of_ble_eq_true rfl, ?_⟩)
      exact q _ ⟨⟨m, 0, rfl, m0, m1, by decide, by decide⟩, ⟨acc.reverse, rfl, by rw [List.all_reverse]; exact h1, by rw [List.length_reverse, h2]; exact Nat.le_trans hc (by decide)⟩, by decide⟩
theorem atI_ok {xs : List PV} {r : Int} (h0 : 0 ≤ r) (h1 : r < xs.length) : ∃ v, v ∈ xs ∧ L2.atI xs r = some v := by
  have hlt : r.toNat < xs.length := by omega
  refine ⟨xs[r.toNat], List.getElem_mem hlt, ?_⟩
  have z := L2.atI_nat (xs := xs) (j := r.toNat) (v := xs[r.toNat]) (by simp [hlt])
  rw [show ((r.toNat : Nat) : Int) = r by omega] at z
  exact z
theorem s_pickT {D L N : Nat} {xs : List PV} (h : DeckSt D L N st) (hN : N ≤ 1000000) (h0 : 0 < xs.length) (h1 : xs.length ≤ 100000) (q : ∀ v ∈ xs, ∀ st', DeckSt D L (N + 1) st' → Fr D L st st' → Q v st') : GC G (d + 2) 21 [.ref D, .tup xs] st Q := by
  refine c_law_pick ?_
  repeat (first
    | with_reducible (first | refine MI.gss_cons ?_ | refine MI.gss_nil ?_ | refine MI.gn_next ?_ | refine MI.gn_ret ?_ | refine MI.gn_brk ?_ | refine MI.gn_cont ?_ | refine MI.gk_next ?_ | refine MI.gk_cont ?_ | refine MI.gk_brk ?_ | refine MI.gk_ret ?_ | refine MI.gf_ret ?_ | refine MI.gf_next ?_ | refine MI.gs_asg ?_ | refine MI.gs_asgT ?_ | refine MI.gs_par ?_ | refine MI.gs_put ?_ | refine MI.gs_if ?_ | refine MI.gs_ret ?_ | refine MI.gs_retN ?_ | refine MI.gs_expr ?_ | refine MI.gs_pass ?_ | refine MI.gs_brk ?_ | refine MI.gs_cont ?_ | refine MI.gs_while ?_ | refine MI.gs_for ?_ | refine MI.ge_of ?_ | refine MI.ga_val ?_ | refine MI.ga_new ?_ | refine MI.gl_nil ?_ | refine MI.gl_cons ?_ | refine MI.gr_nil ?_ | refine MI.gr_cons ?_ | refine MI.gi_rng ?_ | refine MI.gi_of ?_ | refine MI.gv_name ?_ | refine MI.gv_int ?_ | refine MI.gv_bl ?_ | refine MI.gv_str ?_ | refine MI.gv_non ?_ | refine MI.gv_ty ?_ | refine MI.gv_glob ?_ | refine MI.gv_bin ?_ | refine MI.gv_neg ?_ | refine MI.gv_not ?_ | refine MI.gv_and ?_ | refine MI.gv_or ?_ | refine MI.gand_one ?_ | refine MI.gand_cons ?_ | refine MI.gor_one ?_ | refine MI.gor_cons ?_ | refine MI.gv_cmp ?_ | refine MI.gv_chain ?_ | refine MI.gv_ife ?_ | refine MI.gv_idx ?_ | refine MI.gv_slice ?_ | refine MI.go_none ?_ | refine MI.go_some ?_ | refine MI.gv_rev ?_ | refine MI.gv_call ?_ | refine MI.gv_callK ?_ | refine MI.gv_bi ?_ | refine MI.gv_comp ?_ | refine MI.gv_pop ?_ | refine MI.gv_append ?_ | refine MI.gv_dct ?_ | refine MI.gt_not ?_ | refine MI.gt_and ?_ | refine MI.gt_or ?_ | refine MI.gandt_one ?_ | refine MI.gandt_cons ?_ | refine MI.gort_one ?_ | refine MI.gort_cons ?_ | refine MI.gt_val ?_ | refine MI.gifs_nil ?_ | refine MI.gifs_cons ?_ | refine MI.gif_true ?_ | refine MI.gif_false ?_ | refine MI.gif_not ?_ | refine MI.gb_add ?_ | refine MI.gb_sub ?_ | refine MI.gm_lt ?_ | refine MI.gm_le ?_ | refine MI.gm_gt ?_ | refine MI.gm_ge ?_ | refine MI.gm_eq ?_ | refine MI.gm_ne ?_ | refine MI.gm_seq ?_ | refine MI.gtr_bl ?_ | refine MI.gtr_int ?_ | refine MI.gbi_int_int ?_ | refine MI.gbi_int_bool ?_ | refine MI.gbi_int_tup ?_ | refine MI.gbi_int_list ?_ | refine MI.gbi_int_dict ?_ | refine MI.gbi_tup_tup ?_ | refine MI.gbi_bl_tup ?_ | refine MI.gbi_bl_list ?_ | refine MI.gbi_bl_dict ?_ | refine MI.gbi_bl_bool ?_ | refine MI.gbi_len_tup ?_ | refine MI.gbi_int1 ?_ | refine MI.gbi_max ?_)
    | with_reducible refine MI.gv_tup ?_
    | with_reducible refine MI.gv_lst ?_
    | with_reducible refine MI.gb_mod (by first | decide | omega) ?_
    | with_reducible refine MI.gb_div (by first | decide | assumption) ?_
    | with_reducible refine MI.gb_mul (by first | decide | assumption) ?_
    | with_reducible refine MI.gb_pow (by decide) ?_
    | with_reducible refine MI.gif_dec_t (by first | assumption | omega | decide) ?_
    | with_reducible refine MI.gif_dec_f (by first | assumption | omega | decide) ?_
    | refine MI.gif_t rfl ?_
    | refine MI.gif_f rfl ?_
    | with_reducible refine MI.grg_of (by omega) (by omega) ?_
    | refine MI.gx_of rfl ?_
    | refine MI.gbi_of rfl ?_
    | refine ⟨_, rfl, ?_⟩
    | refine ⟨_, _, rfl, rfl, ?_⟩
    | refine MI.glc_next rfl ?_
    | refine MI.glc_end rfl ?_
    | refine MI.glf_next rfl ?_
    | refine MI.glf_end rfl ?_
    | refine ⟨Nat.le_of_ble_eq_true rfl, ?_⟩)
  refine s_draw h (by omega) (by omega) hN fun r st' r0 r1 hd hf => ?_
  obtain ⟨v, hv, ha⟩ := atI_ok r0 r1
  refine gx_of (show (some (false, xs)).bind (fun p => L2.atI p.2 r) = some v from ha) ?_
  repeat (first
    | with_reducible (first | refine MI.gss_cons ?_ | refine MI.gss_nil ?_ | refine MI.gn_next ?_ | refine MI.gn_ret ?_ | refine MI.gn_brk ?_ | refine MI.gn_cont ?_ | refine MI.gk_next ?_ | refine MI.gk_cont ?_ | refine MI.gk_brk ?_ | refine MI.gk_ret ?_ | refine MI.gf_ret ?_ | refine MI.gf_next ?_ | refine MI.gs_asg ?_ | refine MI.gs_asgT ?_ | refine MI.gs_par ?_ | refine MI.gs_put ?_ | refine MI.gs_if ?_ | refine MI.gs_ret ?_ | refine MI.gs_retN ?_ | refine MI.gs_expr ?_ | refine MI.gs_pass ?_ | refine MI.gs_brk ?_ | refine MI.gs_cont ?_ | refine MI.gs_while ?_ | refine MI.gs_for ?_ | refine MI.ge_of ?_ | refine MI.ga_val ?_ | refine MI.ga_new ?_ | refine MI.gl_nil ?_ | refine MI.gl_cons ?_ | refine MI.gr_nil ?_ | refine MI.gr_cons ?_ | refine MI.gi_rng ?_ | refine MI.gi_of ?_ | refine MI.gv_name ?_ | refine MI.gv_int ?_ | refine MI.gv_bl ?_ | refine MI.gv_str ?_ | refine MI.gv_non ?_ | refine MI.gv_ty ?_ | refine MI.gv_glob ?_ | refine MI.gv_bin ?_ | refine MI.gv_neg ?_ | refine MI.gv_not ?_ | refine MI.gv_and ?_ | refine MI.gv_or ?_ | refine MI.gand_one ?_ | refine MI.gand_cons ?_ | refine MI.gor_one ?_ | refine MI.gor_cons ?_ | refine MI.gv_cmp ?_ | refine MI.gv_chain ?_ | refine MI.gv_ife ?_ | refine MI.gv_idx ?_ | refine MI.gv_slice ?_ | refine MI.go_none ?_ | refine MI.go_some ?_ | refine MI.gv_rev ?_ | refine MI.gv_call ?_ | refine MI.gv_callK ?_ | refine MI.gv_bi ?_ | refine MI.gv_comp ?_ | refine MI.gv_pop ?_ | refine MI.gv_append ?_ | refine MI.gv_dct ?_ | refine MI.gt_not ?_ | refine MI.gt_and ?_ | refine MI.gt_or ?_ | refine MI.gandt_one ?_ | refine MI.gandt_cons ?_ | refine MI.gort_one ?_ | refine MI.gort_cons ?_ | refine MI.gt_val ?_ | refine MI.gifs_nil ?_ | refine MI.gifs_cons ?_ | refine MI.gif_true ?_ | refine MI.gif_false ?_ | refine MI.gif_not ?_ | refine MI.gb_add ?_ | refine MI.gb_sub ?_ | refine MI.gm_lt ?_ | refine MI.gm_le ?_ | refine MI.gm_gt ?_ | refine MI.gm_ge ?_ | refine MI.gm_eq ?_ | refine MI.gm_ne ?_ | refine MI.gm_seq ?_ | refine MI.gtr_bl ?_ | refine MI.gtr_int ?_ | refine MI.gbi_int_int ?_ | refine MI.gbi_int_bool ?_ | refine MI.gbi_int_tup ?_ | refine MI.gbi_int_list ?_ | refine MI.gbi_int_dict ?_ | refine MI.gbi_tup_tup ?_ | refine MI.gbi_bl_tup ?_ | refine MI.gbi_bl_list ?_ | refine MI.gbi_bl_dict ?_ | refine MI.gbi_bl_bool ?_ | refine MI.gbi_len_tup ?_ | refine MI.gbi_int1 ?_ | refine MI.gbi_max ?_)
    | with_reducible refine MI.gv_tup ?_
    | with_reducible refine MI.gv_lst ?_
    | with_reducible refine MI.gb_mod (by first | decide | omega) ?_
    | with_reducible refine MI.gb_div (by first | decide | assumption) ?_
    | with_reducible refine MI.gb_mul (by first | decide | assumption) ?_
    | with_reducible refine MI.gb_pow (by decide) ?_
    | with_reducible refine MI.gif_dec_t (by first | assumption | omega | decide) ?_
    | with_reducible refine MI.gif_dec_f (by first | assumption | omega | decide) ?_
    | refine MI.gif_t rfl ?_
    | refine MI.gif_f rfl ?_
    | with_reducible refine MI.grg_of (by omega) (by omega) ?_
    | refine MI.gx_of rfl ?_
    | refine MI.gbi_of rfl ?_
    | refine ⟨_, rfl, ?_⟩
    | refine ⟨_, _, rfl, rfl, ?_⟩
    | refine MI.glc_next rfl ?_
    | refine MI.glc_end rfl ?_
    | refine MI.glf_next rfl ?_
    | refine MI.glf_end rfl ?_
    | refine ⟨Nat.le_of_ble_eq_true rfl, ?_⟩)
  exact q v hv st' hd hf
theorem s_pickL {D L N n : Nat} {xs : List PV} (h : DeckSt D L N st) (hN : N ≤ 1000000) (hn : st[n]? = some (.lst xs)) (hD : n ≠ D) (hL : n ≠ L) (h0 : 0 < xs.length) (h1 : xs.length ≤ 100000) (q : ∀ v ∈ xs, ∀ st', DeckSt D L (N + 1) st' → Fr D L st st' → Q v st') : GC G (d + 2) 21 [.ref D, .ref n] st Q := by
  refine c_law_pick ?_
  have e : biCall .len [.val (.ref n)] st = some (.val (.int xs.length)) := by
    show ((match st[n]? with
      | some (.lst xs) => some (true, xs)
      | _ => none).map fun (p : Bool × List PV) => RV.val (.int (p.2.length : Int))) = _
    rw [hn]
    rfl
  repeat (first
    | with_reducible (first | refine MI.gss_cons ?_ | refine MI.gss_nil ?_ | refine MI.gn_next ?_ | refine MI.gn_ret ?_ | refine MI.gn_brk ?_ | refine MI.gn_cont ?_ | refine MI.gk_next ?_ | refine MI.gk_cont ?_ | refine MI.gk_brk ?_ | refine MI.gk_ret ?_ | refine MI.gf_ret ?_ | refine MI.gf_next ?_ | refine MI.gs_asg ?_ | refine MI.gs_asgT ?_ | refine MI.gs_par ?_ | refine MI.gs_put ?_ | refine MI.gs_if ?_ | refine MI.gs_ret ?_ | refine MI.gs_retN ?_ | refine MI.gs_expr ?_ | refine MI.gs_pass ?_ | refine MI.gs_brk ?_ | refine MI.gs_cont ?_ | refine MI.gs_while ?_ | refine MI.gs_for ?_ | refine MI.ge_of ?_ | refine MI.ga_val ?_ | refine MI.ga_new ?_ | refine MI.gl_nil ?_ | refine MI.gl_cons ?_ | refine MI.gr_nil ?_ | refine MI.gr_cons ?_ | refine MI.gi_rng ?_ | refine MI.gi_of ?_ | refine MI.gv_name ?_ | refine MI.gv_int ?_ | refine MI.gv_bl ?_ | refine MI.gv_str ?_ | refine MI.gv_non ?_ | refine MI.gv_ty ?_ | refine MI.gv_glob ?_ | refine MI.gv_bin ?_ | refine MI.gv_neg ?_ | refine MI.gv_not ?_ | refine MI.gv_and ?_ | refine MI.gv_or ?_ | refine MI.gand_one ?_ | refine MI.gand_cons ?_ | refine MI.gor_one ?_ | refine MI.gor_cons ?_ | refine MI.gv_cmp ?_ | refine MI.gv_chain ?_ | refine MI.gv_ife ?_ | refine MI.gv_idx ?_ | refine MI.gv_slice ?_ | refine MI.go_none ?_ | refine MI.go_some ?_ | refine MI.gv_rev ?_ | refine MI.gv_call ?_ | refine MI.gv_callK ?_ | refine MI.gv_bi ?_ | refine MI.gv_comp ?_ | refine MI.gv_pop ?_ | refine MI.gv_append ?_ | refine MI.gv_dct ?_ | refine MI.gt_not ?_ | refine MI.gt_and ?_ | refine MI.gt_or ?_ | refine MI.gandt_one ?_ | refine MI.gandt_cons ?_ | refine MI.gort_one ?_ | refine MI.gort_cons ?_ | refine MI.gt_val ?_ | refine MI.gifs_nil ?_ | refine MI.gifs_cons ?_ | refine MI.gif_true ?_ | refine MI.gif_false ?_ | refine MI.gif_not ?_ | refine MI.gb_add ?_ | refine MI.gb_sub ?_ | refine MI.gm_lt ?_ | refine MI.gm_le ?_ | refine MI.gm_gt ?_ | refine MI.gm_ge ?_ | refine MI.gm_eq ?_ | refine MI.gm_ne ?_ | refine MI.gm_seq ?_ | refine MI.gtr_bl ?_ | refine MI.gtr_int ?_ | refine MI.gbi_int_int ?_ | refine MI.gbi_int_bool ?_ | refine MI.gbi_int_tup ?_ | refine MI.gbi_int_list ?_ | refine MI.gbi_int_dict ?_ | refine MI.gbi_tup_tup ?_ | refine MI.gbi_bl_tup ?_ | refine MI.gbi_bl_list ?_ | refine MI.gbi_bl_dict ?_ | refine MI.gbi_bl_bool ?_ | refine MI.gbi_len_tup ?_ | refine MI.gbi_int1 ?_ | refine MI.gbi_max ?_)
    | refine gbi_of e ?_
    | with_reducible refine MI.gv_tup ?_
    | with_reducible refine MI.gv_lst ?_
    | with_reducible refine MI.gb_mod (by first | decide | omega) ?_
    | with_reducible refine MI.gb_div (by first | decide | assumption) ?_
    | with_reducible refine MI.gb_mul (by first | decide | assumption) ?_
    | with_reducible refine MI.gb_pow (by decide) ?_
    | with_reducible refine MI.gif_dec_t (by first | assumption | omega | decide) ?_
    | with_reducible refine MI.gif_dec_f (by first | assumption | omega | decide) ?_
    | refine MI.gif_t rfl ?_
    | refine MI.gif_f rfl ?_
    | with_reducible refine MI.grg_of (by omega) (by omega) ?_
    | refine MI.gx_of rfl ?_
    | refine MI.gbi_of rfl ?_
    | refine ⟨_, rfl, ?_⟩
    | refine ⟨_, _, rfl, rfl, ?_⟩
    | refine MI.glc_next rfl ?_
    | refine MI.glc_end rfl ?_
    | refine MI.glf_next rfl ?_
    | refine MI.glf_end rfl ?_
    | refine ⟨Nat.le_of_ble_eq_true rfl, ?_⟩)
  refine s_draw h (by omega) (by omega) hN fun r st' r0 r1 hd hf => ?_
  obtain ⟨v, hv, ha⟩ := atI_ok r0 r1
  refine gx_of (v := v) ?_ ?_
  · show (match st'[n]? with
      | some (.lst xs) => some (true, xs)
      | _ => none).bind (fun (p : Bool × List PV) => L2.atI p.2 r) = some v
    rw [hf.at_ n hD hL (List.getElem?_eq_some_iff.mp hn).1, hn]
    exact ha
  · repeat (first
      | with_reducible (first | refine MI.gss_cons ?_ | refine MI.gss_nil ?_ | refine MI.gn_next ?_ | refine MI.gn_ret ?_ | refine MI.gn_brk ?_ | refine MI.gn_cont ?_ | refine MI.gk_next ?_ | refine MI.gk_cont ?_ | refine MI.gk_brk ?_ | refine MI.gk_ret ?_ | refine MI.gf_ret ?_ | refine MI.gf_next ?_ | refine MI.gs_asg ?_ | refine MI.gs_asgT ?_ | refine MI.gs_par ?_ | refine MI.gs_put ?_ | refine MI.gs_if ?_ | refine MI.gs_ret ?_ | refine MI.gs_retN ?_ | refine MI.gs_expr ?_ | refine MI.gs_pass ?_ | refine MI.gs_brk ?_ | refine MI.gs_cont ?_ | refine MI.gs_while ?_ | refine MI.gs_for ?_ | refine MI.ge_of ?_ | refine MI.ga_val ?_ | refine MI.ga_new ?_ | refine MI.gl_nil ?_ | refine MI.gl_cons ?_ | refine MI.gr_nil ?_ | refine MI.gr_cons ?_ | refine MI.gi_rng ?_ | refine MI.gi_of ?_ | refine MI.gv_name ?_ | refine MI.gv_int ?_ | refine MI.gv_bl ?_ | refine MI.gv_str ?_ | refine MI.gv_non ?_ | refine MI.gv_ty ?_ | refine MI.gv_glob ?_ | refine MI.gv_bin ?_ | refine MI.gv_neg ?_ | refine MI.gv_not ?_ | refine MI.gv_and ?_ | refine MI.gv_or ?_ | refine MI.gand_one ?_ | refine MI.gand_cons ?_ | refine MI.gor_one ?_ | refine MI.gor_cons ?_ | refine MI.gv_cmp ?_ | refine MI.gv_chain ?_ | refine MI.gv_ife ?_ | refine MI.gv_idx ?_ | refine MI.gv_slice ?_ | refine MI.go_none ?_ | refine MI.go_some ?_ | refine MI.gv_rev ?_ | refine MI.gv_call ?_ | refine MI.gv_callK ?_ | refine MI.gv_bi ?_ | refine MI.gv_comp ?_ | refine MI.gv_pop ?_ | refine MI.gv_append ?_ | refine MI.gv_dct ?_ | refine MI.gt_not ?_ | refine MI.gt_and ?_ | refine MI.gt_or ?_ | refine MI.gandt_one ?_ | refine MI.gandt_cons ?_ | refine MI.gort_one ?_ | refine MI.gort_cons ?_ | refine MI.gt_val ?_ | refine MI.gifs_nil ?_ | refine MI.gifs_cons ?_ | refine MI.gif_true ?_ | refine MI.gif_false ?_ | refine MI.gif_not ?_ | refine MI.gb_add ?_ | refine MI.gb_sub ?_ | refine MI.gm_lt ?_ | refine MI.gm_le ?_ | refine MI.gm_gt ?_ | refine MI.gm_ge ?_ | refine MI.gm_eq ?_ | refine MI.gm_ne ?_ | refine MI.gm_seq ?_ | refine MI.gtr_bl ?_ | refine MI.gtr_int ?_ | refine MI.gbi_int_int ?_ | refine MI.gbi_int_bool ?_ | refine MI.gbi_int_tup ?_ | refine MI.gbi_int_list ?_ | refine MI.gbi_int_dict ?_ | refine MI.gbi_tup_tup ?_ | refine MI.gbi_bl_tup ?_ | refine MI.gbi_bl_list ?_ | refine MI.gbi_bl_dict ?_ | refine MI.gbi_bl_bool ?_ | refine MI.gbi_len_tup ?_ | refine MI.gbi_int1 ?_ | refine MI.gbi_max ?_)
      | with_reducible refine MI.gv_tup ?_
      | with_reducible refine MI.gv_lst ?_
      | with_reducible refine MI.gb_mod (by first | decide | omega) ?_
      | with_reducible refine MI.gb_div (by first | decide | assumption) ?_
      | with_reducible refine MI.gb_mul (by first | decide | assumption) ?_
      | with_reducible refine MI.gb_pow (by decide) ?_
      | with_reducible refine MI.gif_dec_t (by first | assumption | omega | decide) ?_
      | with_reducible refine MI.gif_dec_f (by first | assumption | omega | decide) ?_
      | refine MI.gif_t rfl ?_
      | refine MI.gif_f rfl ?_
      | with_reducible refine MI.grg_of (by omega) (by omega) ?_
      | refine MI.gx_of rfl ?_
      | refine MI.gbi_of rfl ?_
      | refine ⟨_, rfl, ?_⟩
      | refine ⟨_, _, rfl, rfl, ?_⟩
      | refine MI.glc_next rfl ?_
      | refine MI.glc_end rfl ?_
      | refine MI.glf_next rfl ?_
      | refine MI.glf_end rfl ?_
      | refine ⟨Nat.le_of_ble_eq_true rfl, ?_⟩)
    exact q v hv st' hd hf
/-- plain values: nested tuples of numbers -/
def Pl : Nat → PV → Prop
  | _, .int _ => True
  | n + 1, .tup xs => xs.length ≤ 1000 ∧ ∀ x ∈ xs, Pl n x
  | _, _ => False
theorem zip_self {xs : List PV} {i : Nat} {z : PV} (h : ((xs.zip xs).map fun z => PV.tup [z.1, z.2])[i]? = some z) : ∃ x ∈ xs, z = .tup [x, x] := by
  rw [zip_get] at h
  cases q : xs[i]? with
  | none => rw [q] at h; cases h
  | some x =>
    rw [q] at h
    exact ⟨x, List.mem_of_getElem? q, (Option.some.inj h).symm⟩
theorem s_same : ∀ (n : Nat) {d : Nat} {v : PV} {st : Store} {Q : PV → Store → Prop}, Pl n v → Q (.bl true) st → GC G (d + n + 1) 22 [v, v] st Q
  | n, d, .int i, st, Q, _, q => by
    refine c_law_same ?_
    repeat (first
      | with_reducible (first | refine MI.gss_cons ?_ | refine MI.gss_nil ?_ | refine MI.gn_next ?_ | refine MI.gn_ret ?_ | refine MI.gn_brk ?_ | refine MI.gn_cont ?_ | refine MI.gk_next ?_ | refine MI.gk_cont ?_ | refine MI.gk_brk ?_ | refine MI.gk_ret ?_ | refine MI.gf_ret ?_ | refine MI.gf_next ?_ | refine MI.gs_asg ?_ | refine MI.gs_asgT ?_ | refine MI.gs_par ?_ | refine MI.gs_put ?_ | refine MI.gs_if ?_ | refine MI.gs_ret ?_ | refine MI.gs_retN ?_ | refine MI.gs_expr ?_ | refine MI.gs_pass ?_ | refine MI.gs_brk ?_ | refine MI.gs_cont ?_ | refine MI.gs_while ?_ | refine MI.gs_for ?_ | refine MI.ge_of ?_ | refine MI.ga_val ?_ | refine MI.ga_new ?_ | refine MI.gl_nil ?_ | refine MI.gl_cons ?_ | refine MI.gr_nil ?_ | refine MI.gr_cons ?_ | refine MI.gi_rng ?_ | refine MI.gi_of ?_ | refine MI.gv_name ?_ | refine MI.gv_int ?_ | refine MI.gv_bl ?_ | refine MI.gv_str ?_ | refine MI.gv_non ?_ | refine MI.gv_ty ?_ | refine MI.gv_glob ?_ | refine MI.gv_bin ?_ | refine MI.gv_neg ?_ | refine MI.gv_not ?_ | refine MI.gv_and ?_ | refine MI.gv_or ?_ | refine MI.gand_one ?_ | refine MI.gand_cons ?_ | refine MI.gor_one ?_ | refine MI.gor_cons ?_ | refine MI.gv_cmp ?_ | refine MI.gv_chain ?_ | refine MI.gv_ife ?_ | refine MI.gv_idx ?_ | refine MI.gv_slice ?_ | refine MI.go_none ?_ | refine MI.go_some ?_ | refine MI.gv_rev ?_ | refine MI.gv_call ?_ | refine MI.gv_callK ?_ | refine MI.gv_bi ?_ | refine MI.gv_comp ?_ | refine MI.gv_pop ?_ | refine MI.gv_append ?_ | refine MI.gv_dct ?_ | refine MI.gt_not ?_ | refine MI.gt_and ?_ | refine MI.gt_or ?_ | refine MI.gandt_one ?_ | refine MI.gandt_cons ?_ | refine MI.gort_one ?_ | refine MI.gort_cons ?_ | refine MI.gt_val ?_ | refine MI.gifs_nil ?_ | refine MI.gifs_cons ?_ | refine MI.gif_true ?_ | refine MI.gif_false ?_ | refine MI.gif_not ?_ | refine MI.gb_add ?_ | refine MI.gb_sub ?_ | refine MI.gm_lt ?_ | refine MI.gm_le ?_ | refine MI.gm_gt ?_ | refine MI.gm_ge ?_ | refine MI.gm_eq ?_ | refine MI.gm_ne ?_ | refine MI.gm_seq ?_ | refine MI.gtr_bl ?_ | refine MI.gtr_int ?_ | refine MI.gbi_int_int ?_ | refine MI.gbi_int_bool ?_ | refine MI.gbi_int_tup ?_ | refine MI.gbi_int_list ?_ | refine MI.gbi_int_dict ?_ | refine MI.gbi_tup_tup ?_ | refine MI.gbi_bl_tup ?_ | refine MI.gbi_bl_list ?_ | refine MI.gbi_bl_dict ?_ | refine MI.gbi_bl_bool ?_ | refine MI.gbi_len_tup ?_ | refine MI.gbi_int1 ?_ | refine MI.gbi_max ?_)
      | refine gm_is rfl ?_
      | with_reducible refine MI.gv_tup ?_
      | with_reducible refine MI.gv_lst ?_
      | with_reducible refine MI.gb_mod (by first | decide | omega) ?_
      | with_reducible refine MI.gb_div (by first | decide | assumption) ?_
      | with_reducible refine MI.gb_mul (by first | decide | assumption) ?_
      | with_reducible refine MI.gb_pow (by decide) ?_
      | with_reducible refine MI.gif_dec_t (by first | assumption | omega | decide) ?_
      | with_reducible refine MI.gif_dec_f (by first | assumption | omega | decide) ?_
      | refine MI.gif_t rfl ?_
      | refine MI.gif_f rfl ?_
      | with_reducible refine MI.grg_of (by omega) (by omega) ?_
      | refine MI.gx_of rfl ?_
      | refine MI.gbi_of rfl ?_
      | refine ⟨_, rfl, ?_⟩
      | refine ⟨_, _, rfl, rfl, ?_⟩
      | refine MI.glc_next rfl ?_
      | refine MI.glc_end rfl ?_
      | refine MI.glf_next rfl ?_
      | refine MI.glf_end rfl ?_
      | refine ⟨Nat.le_of_ble_eq_true rfl, ?_⟩)
    rw [decide_eq_true (rfl : i = i)]
    exact q
  | n, d, .non, st, Q, h, q => by cases n <;> exact h.elim
  | n, d, .bl _, st, Q, h, q => by cases n <;> exact h.elim
  | n, d, .str _, st, Q, h, q => by cases n <;> exact h.elim
  | n, d, .ty _, st, Q, h, q => by cases n <;> exact h.elim
  | n, d, .frz _, st, Q, h, q => by cases n <;> exact h.elim
  | n, d, .ref _, st, Q, h, q => by cases n <;> exact h.elim
  | 0, d, .tup xs, st, Q, h, q => h.elim
  | n + 1, d, .tup xs, st, Q, h, q => by
    refine c_law_same ?_
    repeat (first
      | with_reducible (first | refine MI.gss_cons ?_ | refine MI.gss_nil ?_ | refine MI.gn_next ?_ | refine MI.gn_ret ?_ | refine MI.gn_brk ?_ | refine MI.gn_cont ?_ | refine MI.gk_next ?_ | refine MI.gk_cont ?_ | refine MI.gk_brk ?_ | refine MI.gk_ret ?_ | refine MI.gf_ret ?_ | refine MI.gf_next ?_ | refine MI.gs_asg ?_ | refine MI.gs_asgT ?_ | refine MI.gs_par ?_ | refine MI.gs_put ?_ | refine MI.gs_if ?_ | refine MI.gs_ret ?_ | refine MI.gs_retN ?_ | refine MI.gs_expr ?_ | refine MI.gs_pass ?_ | refine MI.gs_brk ?_ | refine MI.gs_cont ?_ | refine MI.gs_while ?_ | refine MI.gs_for ?_ | refine MI.ge_of ?_ | refine MI.ga_val ?_ | refine MI.ga_new ?_ | refine MI.gl_nil ?_ | refine MI.gl_cons ?_ | refine MI.gr_nil ?_ | refine MI.gr_cons ?_ | refine MI.gi_rng ?_ | refine MI.gi_of ?_ | refine MI.gv_name ?_ | refine MI.gv_int ?_ | refine MI.gv_bl ?_ | refine MI.gv_str ?_ | refine MI.gv_non ?_ | refine MI.gv_ty ?_ | refine MI.gv_glob ?_ | refine MI.gv_bin ?_ | refine MI.gv_neg ?_ | refine MI.gv_not ?_ | refine MI.gv_and ?_ | refine MI.gv_or ?_ | refine MI.gand_one ?_ | refine MI.gand_cons ?_ | refine MI.gor_one ?_ | refine MI.gor_cons ?_ | refine MI.gv_cmp ?_ | refine MI.gv_chain ?_ | refine MI.gv_ife ?_ | refine MI.gv_idx ?_ | refine MI.gv_slice ?_ | refine MI.go_none ?_ | refine MI.go_some ?_ | refine MI.gv_rev ?_ | refine MI.gv_call ?_ | refine MI.gv_callK ?_ | refine MI.gv_bi ?_ | refine MI.gv_comp ?_ | refine MI.gv_pop ?_ | refine MI.gv_append ?_ | refine MI.gv_dct ?_ | refine MI.gt_not ?_ | refine MI.gt_and ?_ | refine MI.gt_or ?_ | refine MI.gandt_one ?_ | refine MI.gandt_cons ?_ | refine MI.gort_one ?_ | refine MI.gort_cons ?_ | refine MI.gt_val ?_ | refine MI.gifs_nil ?_ | refine MI.gifs_cons ?_ | refine MI.gif_true ?_ | refine MI.gif_false ?_ | refine MI.gif_not ?_ | refine MI.gb_add ?_ | refine MI.gb_sub ?_ | refine MI.gm_lt ?_ | refine MI.gm_le ?_ | refine MI.gm_gt ?_ | refine MI.gm_ge ?_ | refine MI.gm_eq ?_ | refine MI.gm_ne ?_ | refine MI.gm_seq ?_ | refine MI.gtr_bl ?_ | refine MI.gtr_int ?_ | refine MI.gbi_int_int ?_ | refine MI.gbi_int_bool ?_ | refine MI.gbi_int_tup ?_ | refine MI.gbi_int_list ?_ | refine MI.gbi_int_dict ?_ | refine MI.gbi_tup_tup ?_ | refine MI.gbi_bl_tup ?_ | refine MI.gbi_bl_list ?_ | refine MI.gbi_bl_dict ?_ | refine MI.gbi_bl_bool ?_ | refine MI.gbi_len_tup ?_ | refine MI.gbi_int1 ?_ | refine MI.gbi_max ?_)
      | with_reducible refine MI.gv_tup ?_
      | with_reducible refine MI.gv_lst ?_
      | with_reducible refine MI.gb_mod (by first | decide | omega) ?_
      | with_reducible refine MI.gb_div (by first | decide | assumption) ?_
      | with_reducible refine MI.gb_mul (by first | decide | assumption) ?_
      | with_reducible refine MI.gb_pow (by decide) ?_
      | with_reducible refine MI.gif_dec_t (by first | assumption | omega | decide) ?_
      | with_reducible refine MI.gif_dec_f (by first | assumption | omega | decide) ?_
      | refine MI.gif_t rfl ?_
      | refine MI.gif_f rfl ?_
      | with_reducible refine MI.grg_of (by omega) (by omega) ?_
      | refine MI.gx_of rfl ?_
      | refine MI.gbi_of rfl ?_
      | refine ⟨_, rfl, ?_⟩
      | refine ⟨_, _, rfl, rfl, ?_⟩
      | refine MI.glc_next rfl ?_
      | refine MI.glc_end rfl ?_
      | refine MI.glf_next rfl ?_
      | refine MI.glf_end rfl ?_
      | refine ⟨Nat.le_of_ble_eq_true rfl, ?_⟩)
    refine glc_all (fun i acc st' => acc = [] ∧ st' = st) ⟨rfl, rfl⟩ ?_ ?_
    · rintro i z acc st' hi ⟨rfl, rfl⟩
      obtain ⟨x, hx, rfl⟩ := zip_self hi
      refine ⟨_, rfl, ?_⟩
      repeat (first
        | with_reducible (first | refine MI.gss_cons ?_ | refine MI.gss_nil ?_ | refine MI.gn_next ?_ | refine MI.gn_ret ?_ | refine MI.gn_brk ?_ | refine MI.gn_cont ?_ | refine MI.gk_next ?_ | refine MI.gk_cont ?_ | refine MI.gk_brk ?_ | refine MI.gk_ret ?_ | refine MI.gf_ret ?_ | refine MI.gf_next ?_ | refine MI.gs_asg ?_ | refine MI.gs_asgT ?_ | refine MI.gs_par ?_ | refine MI.gs_put ?_ | refine MI.gs_if ?_ | refine MI.gs_ret ?_ | refine MI.gs_retN ?_ | refine MI.gs_expr ?_ | refine MI.gs_pass ?_ | refine MI.gs_brk ?_ | refine MI.gs_cont ?_ | refine MI.gs_while ?_ | refine MI.gs_for ?_ | refine MI.ge_of ?_ | refine MI.ga_val ?_ | refine MI.ga_new ?_ | refine MI.gl_nil ?_ | refine MI.gl_cons ?_ | refine MI.gr_nil ?_ | refine MI.gr_cons ?_ | refine MI.gi_rng ?_ | refine MI.gi_of ?_ | refine MI.gv_name ?_ | refine MI.gv_int ?_ | refine MI.gv_bl ?_ | refine MI.gv_str ?_ | refine MI.gv_non ?_ | refine MI.gv_ty ?_ | refine MI.gv_glob ?_ | refine MI.gv_bin ?_ | refine MI.gv_neg ?_ | refine MI.gv_not ?_ | refine MI.gv_and ?_ | refine MI.gv_or ?_ | refine MI.gand_one ?_ | refine MI.gand_cons ?_ | refine MI.gor_one ?_ | refine MI.gor_cons ?_ | refine MI.gv_cmp ?_ | refine MI.gv_chain ?_ | refine MI.gv_ife ?_ | refine MI.gv_idx ?_ | refine MI.gv_slice ?_ | refine MI.go_none ?_ | refine MI.go_some ?_ | refine MI.gv_rev ?_ | refine MI.gv_call ?_ | refine MI.gv_callK ?_ | refine MI.gv_bi ?_ | refine MI.gv_comp ?_ | refine MI.gv_pop ?_ | refine MI.gv_append ?_ | refine MI.gv_dct ?_ | refine MI.gt_not ?_ | refine MI.gt_and ?_ | refine MI.gt_or ?_ | refine MI.gandt_one ?_ | refine MI.gandt_cons ?_ | refine MI.gort_one ?_ | refine MI.gort_cons ?_ | refine MI.gt_val ?_ | refine MI.gifs_nil ?_ | refine MI.gifs_cons ?_ | refine MI.gif_true ?_ | refine MI.gif_false ?_ | refine MI.gif_not ?_ | refine MI.gb_add ?_ | refine MI.gb_sub ?_ | refine MI.gm_lt ?_ | refine MI.gm_le ?_ | refine MI.gm_gt ?_ | refine MI.gm_ge ?_ | refine MI.gm_eq ?_ | refine MI.gm_ne ?_ | refine MI.gm_seq ?_ | refine MI.gtr_bl ?_ | refine MI.gtr_int ?_ | refine MI.gbi_int_int ?_ | refine MI.gbi_int_bool ?_ | refine MI.gbi_int_tup ?_ | refine MI.gbi_int_list ?_ | refine MI.gbi_int_dict ?_ | refine MI.gbi_tup_tup ?_ | refine MI.gbi_bl_tup ?_ | refine MI.gbi_bl_list ?_ | refine MI.gbi_bl_dict ?_ | refine MI.gbi_bl_bool ?_ | refine MI.gbi_len_tup ?_ | refine MI.gbi_int1 ?_ | refine MI.gbi_max ?_)
        | refine s_same n (d := d) (h.2 x hx) ?_
        | with_reducible refine MI.gv_tup ?_
        | with_reducible refine MI.gv_lst ?_
        | with_reducible refine MI.gb_mod (by first | decide | omega) ?_
        | with_reducible refine MI.gb_div (by first | decide | assumption) ?_
        | with_reducible refine MI.gb_mul (by first | decide | assumption) ?_
        | with_reducible refine MI.gb_pow (by decide) ?_
        | with_reducible refine MI.gif_dec_t (by first | assumption | omega | decide) ?_
        | with_reducible refine MI.gif_dec_f (by first | assumption | omega | decide) ?_
        | refine MI.gif_t rfl ?_
        | refine MI.gif_f rfl ?_
        | with_reducible refine MI.grg_of (by omega) (by omega) ?_
        | refine MI.gx_of rfl ?_
        | refine MI.gbi_of rfl ?_
        | refine ⟨_, rfl, ?_⟩
        | refine ⟨_, _, rfl, rfl, ?_⟩
        | refine MI.glc_next rfl ?_
        | refine MI.glc_end rfl ?_
        | refine MI.glf_next rfl ?_
        | refine MI.glf_end rfl ?_
        | refine ⟨Nat.le_of_ble_eq_true rfl, ?_⟩)
      exact ⟨rfl, rfl⟩
    · rintro acc st' ⟨rfl, rfl⟩
      repeat (first
        | with_reducible (first | refine MI.gss_cons ?_ | refine MI.gss_nil ?_ | refine MI.gn_next ?_ | refine MI.gn_ret ?_ | refine MI.gn_brk ?_ | refine MI.gn_cont ?_ | refine MI.gk_next ?_ | refine MI.gk_cont ?_ | refine MI.gk_brk ?_ | refine MI.gk_ret ?_ | refine MI.gf_ret ?_ | refine MI.gf_next ?_ | refine MI.gs_asg ?_ | refine MI.gs_asgT ?_ | refine MI.gs_par ?_ | refine MI.gs_put ?_ | refine MI.gs_if ?_ | refine MI.gs_ret ?_ | refine MI.gs_retN ?_ | refine MI.gs_expr ?_ | refine MI.gs_pass ?_ | refine MI.gs_brk ?_ | refine MI.gs_cont ?_ | refine MI.gs_while ?_ | refine MI.gs_for ?_ | refine MI.ge_of ?_ | refine MI.ga_val ?_ | refine MI.ga_new ?_ | refine MI.gl_nil ?_ | refine MI.gl_cons ?_ | refine MI.gr_nil ?_ | refine MI.gr_cons ?_ | refine MI.gi_rng ?_ | refine MI.gi_of ?_ | refine MI.gv_name ?_ | refine MI.gv_int ?_ | refine MI.gv_bl ?_ | refine MI.gv_str ?_ | refine MI.gv_non ?_ | refine MI.gv_ty ?_ | refine MI.gv_glob ?_ | refine MI.gv_bin ?_ | refine MI.gv_neg ?_ | refine MI.gv_not ?_ | refine MI.gv_and ?_ | refine MI.gv_or ?_ | refine MI.gand_one ?_ | refine MI.gand_cons ?_ | refine MI.gor_one ?_ | refine MI.gor_cons ?_ | refine MI.gv_cmp ?_ | refine MI.gv_chain ?_ | refine MI.gv_ife ?_ | refine MI.gv_idx ?_ | refine MI.gv_slice ?_ | refine MI.go_none ?_ | refine MI.go_some ?_ | refine MI.gv_rev ?_ | refine MI.gv_call ?_ | refine MI.gv_callK ?_ | refine MI.gv_bi ?_ | refine MI.gv_comp ?_ | refine MI.gv_pop ?_ | refine MI.gv_append ?_ | refine MI.gv_dct ?_ | refine MI.gt_not ?_ | refine MI.gt_and ?_ | refine MI.gt_or ?_ | refine MI.gandt_one ?_ | refine MI.gandt_cons ?_ | refine MI.gort_one ?_ | refine MI.gort_cons ?_ | refine MI.gt_val ?_ | refine MI.gifs_nil ?_ | refine MI.gifs_cons ?_ | refine MI.gif_true ?_ | refine MI.gif_false ?_ | refine MI.gif_not ?_ | refine MI.gb_add ?_ | refine MI.gb_sub ?_ | refine MI.gm_lt ?_ | refine MI.gm_le ?_ | refine MI.gm_gt ?_ | refine MI.gm_ge ?_ | refine MI.gm_eq ?_ | refine MI.gm_ne ?_ | refine MI.gm_seq ?_ | refine MI.gtr_bl ?_ | refine MI.gtr_int ?_ | refine MI.gbi_int_int ?_ | refine MI.gbi_int_bool ?_ | refine MI.gbi_int_tup ?_ | refine MI.gbi_int_list ?_ | refine MI.gbi_int_dict ?_ | refine MI.gbi_tup_tup ?_ | refine MI.gbi_bl_tup ?_ | refine MI.gbi_bl_list ?_ | refine MI.gbi_bl_dict ?_ | refine MI.gbi_bl_bool ?_ | refine MI.gbi_len_tup ?_ | refine MI.gbi_int1 ?_ | refine MI.gbi_max ?_)
        | refine gm_nil rfl ?_
        | with_reducible refine MI.gv_tup ?_
        | with_reducible refine MI.gv_lst ?_
        | with_reducible refine MI.gb_mod (by first | decide | omega) ?_
        | with_reducible refine MI.gb_div (by first | decide | assumption) ?_
        | with_reducible refine MI.gb_mul (by first | decide | assumption) ?_
        | with_reducible refine MI.gb_pow (by decide) ?_
        | with_reducible refine MI.gif_dec_t (by first | assumption | omega | decide) ?_
        | with_reducible refine MI.gif_dec_f (by first | assumption | omega | decide) ?_
        | refine MI.gif_t rfl ?_
        | refine MI.gif_f rfl ?_
        | with_reducible refine MI.grg_of (by omega) (by omega) ?_
        | refine MI.gx_of rfl ?_
        | refine MI.gbi_of rfl ?_
        | refine ⟨_, rfl, ?_⟩
        | refine ⟨_, _, rfl, rfl, ?_⟩
        | refine MI.glc_next rfl ?_
        | refine MI.glc_end rfl ?_
        | refine MI.glf_next rfl ?_
        | refine MI.glf_end rfl ?_
        | refine ⟨Nat.le_of_ble_eq_true rfl, ?_⟩)
      exact q
end
end K01
end
section
set_option Elab.async false
set_option linter.all false
set_option maxRecDepth 100000
set_option maxHeartbeats 4000000
namespace K01
open PySem MI
section
variable {d : Nat} {st : Store} {Q : PV → Store → Prop}
theorem mem3 {a b c v : PV} (h : v ∈ [a, b, c]) : v = a ∨ v = b ∨ v = c := by simpa using h
theorem mem2 {a b v : PV} (h : v ∈ [a, b]) : v = a ∨ v = b := by simpa using h
theorem s_int {D L N : Nat} {most : Int} (h : DeckSt D L N st) (hN : N ≤ 100000) (m0 : 1 ≤ most) (m1 : most ≤ 149) (q : ∀ (z : Int) (st' : Store), z.natAbs < 2 ^ 2000 → DeckSt D L (N + 40) st' → Fr D L st st' → Q (.int z) st') : GC G (d + 3) 23 [.ref D, .int most] st Q := by
  refine c_law_int ?_
  repeat (first
    | with_reducible (first | refine MI.gss_cons ?_ | refine MI.gss_nil ?_ | refine MI.gn_next ?_ | refine MI.gn_ret ?_ | refine MI.gn_brk ?_ | refine MI.gn_cont ?_ | refine MI.gk_next ?_ | refine MI.gk_cont ?_ | refine MI.gk_brk ?_ | refine MI.gk_ret ?_ | refine MI.gf_ret ?_ | refine MI.gf_next ?_ | refine MI.gs_asg ?_ | refine MI.gs_asgT ?_ | refine MI.gs_par ?_ | refine MI.gs_put ?_ | refine MI.gs_if ?_ | refine MI.gs_ret ?_ | refine MI.gs_retN ?_ | refine MI.gs_expr ?_ | refine MI.gs_pass ?_ | refine MI.gs_brk ?_ | refine MI.gs_cont ?_ | refine MI.gs_while ?_ | refine MI.gs_for ?_ | refine MI.ge_of ?_ | refine MI.ga_val ?_ | refine MI.ga_new ?_ | refine MI.gl_nil ?_ | refine MI.gl_cons ?_ | refine MI.gr_nil ?_ | refine MI.gr_cons ?_ | refine MI.gi_rng ?_ | refine MI.gi_of ?_ | refine MI.gv_name ?_ | refine MI.gv_int ?_ | refine MI.gv_bl ?_ | refine MI.gv_str ?_ | refine MI.gv_non ?_ | refine MI.gv_ty ?_ | refine MI.gv_glob ?_ | refine MI.gv_bin ?_ | refine MI.gv_neg ?_ | refine MI.gv_not ?_ | refine MI.gv_and ?_ | refine MI.gv_or ?_ | refine MI.gand_one ?_ | refine MI.gand_cons ?_ | refine MI.gor_one ?_ | refine MI.gor_cons ?_ | refine MI.gv_cmp ?_ | refine MI.gv_chain ?_ | refine MI.gv_ife ?_ | refine MI.gv_idx ?_ | refine MI.gv_slice ?_ | refine MI.go_none ?_ | refine MI.go_some ?_ | refine MI.gv_rev ?_ | refine MI.gv_call ?_ | refine MI.gv_callK ?_ | refine MI.gv_bi ?_ | refine MI.gv_comp ?_ | refine MI.gv_pop ?_ | refine MI.gv_append ?_ | refine MI.gv_dct ?_ | refine MI.gt_not ?_ | refine MI.gt_and ?_ | refine MI.gt_or ?_ | refine MI.gandt_one ?_ | refine MI.gandt_cons ?_ | refine MI.gort_one ?_ | refine MI.gort_cons ?_ | refine MI.gt_val ?_ | refine MI.gifs_nil ?_ | refine MI.gifs_cons ?_ | refine MI.gif_true ?_ | refine MI.gif_false ?_ | refine MI.gif_not ?_ | refine MI.gb_add ?_ | refine MI.gb_sub ?_ | refine MI.gm_lt ?_ | refine MI.gm_le ?_ | refine MI.gm_gt ?_ | refine MI.gm_ge ?_ | refine MI.gm_eq ?_ | refine MI.gm_ne ?_ | refine MI.gm_seq ?_ | refine MI.gtr_bl ?_ | refine MI.gtr_int ?_ | refine MI.gbi_int_int ?_ | refine MI.gbi_int_bool ?_ | refine MI.gbi_int_tup ?_ | refine MI.gbi_int_list ?_ | refine MI.gbi_int_dict ?_ | refine MI.gbi_tup_tup ?_ | refine MI.gbi_bl_tup ?_ | refine MI.gbi_bl_list ?_ | refine MI.gbi_bl_dict ?_ | refine MI.gbi_bl_bool ?_ | refine MI.gbi_len_tup ?_ | refine MI.gbi_int1 ?_ | refine MI.gbi_max ?_)
    | with_reducible refine MI.gv_tup ?_
    | with_reducible refine MI.gv_lst ?_
    | with_reducible refine MI.gb_mod (by first | decide | omega) ?_
    | with_reducible refine MI.gb_div (by first | decide | assumption) ?_
    | with_reducible refine MI.gb_mul (by first | decide | assumption) ?_
    | with_reducible refine MI.gb_pow (by decide) ?_
    | with_reducible refine MI.gif_dec_t (by first | assumption | omega | decide) ?_
    | with_reducible refine MI.gif_dec_f (by first | assumption | omega | decide) ?_
    | refine MI.gif_t rfl ?_
    | refine MI.gif_f rfl ?_
    | with_reducible refine MI.grg_of (by omega) (by omega) ?_
    | refine MI.gx_of rfl ?_
    | refine MI.gbi_of rfl ?_
    | refine ⟨_, rfl, ?_⟩
    | refine ⟨_, _, rfl, rfl, ?_⟩
    | refine MI.glc_next rfl ?_
    | refine MI.glc_end rfl ?_
    | refine MI.glf_next rfl ?_
    | refine MI.glf_end rfl ?_
    | refine ⟨Nat.le_of_ble_eq_true rfl, ?_⟩)
  refine s_draw h (by omega) (by omega) (by omega) fun way st1 w0 w1 d1 f1 => ?_
  repeat (first
    | with_reducible (first | refine MI.gss_cons ?_ | refine MI.gss_nil ?_ | refine MI.gn_next ?_ | refine MI.gn_ret ?_ | refine MI.gn_brk ?_ | refine MI.gn_cont ?_ | refine MI.gk_next ?_ | refine MI.gk_cont ?_ | refine MI.gk_brk ?_ | refine MI.gk_ret ?_ | refine MI.gf_ret ?_ | refine MI.gf_next ?_ | refine MI.gs_asg ?_ | refine MI.gs_asgT ?_ | refine MI.gs_par ?_ | refine MI.gs_put ?_ | refine MI.gs_if ?_ | refine MI.gs_ret ?_ | refine MI.gs_retN ?_ | refine MI.gs_expr ?_ | refine MI.gs_pass ?_ | refine MI.gs_brk ?_ | refine MI.gs_cont ?_ | refine MI.gs_while ?_ | refine MI.gs_for ?_ | refine MI.ge_of ?_ | refine MI.ga_val ?_ | refine MI.ga_new ?_ | refine MI.gl_nil ?_ | refine MI.gl_cons ?_ | refine MI.gr_nil ?_ | refine MI.gr_cons ?_ | refine MI.gi_rng ?_ | refine MI.gi_of ?_ | refine MI.gv_name ?_ | refine MI.gv_int ?_ | refine MI.gv_bl ?_ | refine MI.gv_str ?_ | refine MI.gv_non ?_ | refine MI.gv_ty ?_ | refine MI.gv_glob ?_ | refine MI.gv_bin ?_ | refine MI.gv_neg ?_ | refine MI.gv_not ?_ | refine MI.gv_and ?_ | refine MI.gv_or ?_ | refine MI.gand_one ?_ | refine MI.gand_cons ?_ | refine MI.gor_one ?_ | refine MI.gor_cons ?_ | refine MI.gv_cmp ?_ | refine MI.gv_chain ?_ | refine MI.gv_ife ?_ | refine MI.gv_idx ?_ | refine MI.gv_slice ?_ | refine MI.go_none ?_ | refine MI.go_some ?_ | refine MI.gv_rev ?_ | refine MI.gv_call ?_ | refine MI.gv_callK ?_ | refine MI.gv_bi ?_ | refine MI.gv_comp ?_ | refine MI.gv_pop ?_ | refine MI.gv_append ?_ | refine MI.gv_dct ?_ | refine MI.gt_not ?_ | refine MI.gt_and ?_ | refine MI.gt_or ?_ | refine MI.gandt_one ?_ | refine MI.gandt_cons ?_ | refine MI.gort_one ?_ | refine MI.gort_cons ?_ | refine MI.gt_val ?_ | refine MI.gifs_nil ?_ | refine MI.gifs_cons ?_ | refine MI.gif_true ?_ | refine MI.gif_false ?_ | refine MI.gif_not ?_ | refine MI.gb_add ?_ | refine MI.gb_sub ?_ | refine MI.gm_lt ?_ | refine MI.gm_le ?_ | refine MI.gm_gt ?_ | refine MI.gm_ge ?_ | refine MI.gm_eq ?_ | refine MI.gm_ne ?_ | refine MI.gm_seq ?_ | refine MI.gtr_bl ?_ | refine MI.gtr_int ?_ | refine MI.gbi_int_int ?_ | refine MI.gbi_int_bool ?_ | refine MI.gbi_int_tup ?_ | refine MI.gbi_int_list ?_ | refine MI.gbi_int_dict ?_ | refine MI.gbi_tup_tup ?_ | refine MI.gbi_bl_tup ?_ | refine MI.gbi_bl_list ?_ | refine MI.gbi_bl_dict ?_ | refine MI.gbi_bl_bool ?_ | refine MI.gbi_len_tup ?_ | refine MI.gbi_int1 ?_ | refine MI.gbi_max ?_)
    | with_reducible refine MI.gv_tup ?_
    | with_reducible refine MI.gv_lst ?_
    | with_reducible refine MI.gb_mod (by first | decide | omega) ?_
    | with_reducible refine MI.gb_div (by first | decide | assumption) ?_
    | with_reducible refine MI.gb_mul (by first | decide | assumption) ?_
    | with_reducible refine MI.gb_pow (by decide) ?_
    | with_reducible refine MI.gif_dec_t (by first | assumption | omega | decide) ?_
    | with_reducible refine MI.gif_dec_f (by first | assumption | omega | decide) ?_
    | refine MI.gif_t rfl ?_
    | refine MI.gif_f rfl ?_
    | with_reducible refine MI.grg_of (by omega) (by omega) ?_
    | refine MI.gx_of rfl ?_
    | refine MI.gbi_of rfl ?_
    | refine ⟨_, rfl, ?_⟩
    | refine ⟨_, _, rfl, rfl, ?_⟩
    | refine MI.glc_next rfl ?_
    | refine MI.glc_end rfl ?_
    | refine MI.glf_next rfl ?_
    | refine MI.glf_end rfl ?_
    | refine ⟨Nat.le_of_ble_eq_true rfl, ?_⟩)
  refine gif_dec (fun h3 => ?_) (fun h3 => ?_)
  · repeat (first
      | with_reducible (first | refine MI.gss_cons ?_ | refine MI.gss_nil ?_ | refine MI.gn_next ?_ | refine MI.gn_ret ?_ | refine MI.gn_brk ?_ | refine MI.gn_cont ?_ | refine MI.gk_next ?_ | refine MI.gk_cont ?_ | refine MI.gk_brk ?_ | refine MI.gk_ret ?_ | refine MI.gf_ret ?_ | refine MI.gf_next ?_ | refine MI.gs_asg ?_ | refine MI.gs_asgT ?_ | refine MI.gs_par ?_ | refine MI.gs_put ?_ | refine MI.gs_if ?_ | refine MI.gs_ret ?_ | refine MI.gs_retN ?_ | refine MI.gs_expr ?_ | refine MI.gs_pass ?_ | refine MI.gs_brk ?_ | refine MI.gs_cont ?_ | refine MI.gs_while ?_ | refine MI.gs_for ?_ | refine MI.ge_of ?_ | refine MI.ga_val ?_ | refine MI.ga_new ?_ | refine MI.gl_nil ?_ | refine MI.gl_cons ?_ | refine MI.gr_nil ?_ | refine MI.gr_cons ?_ | refine MI.gi_rng ?_ | refine MI.gi_of ?_ | refine MI.gv_name ?_ | refine MI.gv_int ?_ | refine MI.gv_bl ?_ | refine MI.gv_str ?_ | refine MI.gv_non ?_ | refine MI.gv_ty ?_ | refine MI.gv_glob ?_ | refine MI.gv_bin ?_ | refine MI.gv_neg ?_ | refine MI.gv_not ?_ | refine MI.gv_and ?_ | refine MI.gv_or ?_ | refine MI.gand_one ?_ | refine MI.gand_cons ?_ | refine MI.gor_one ?_ | refine MI.gor_cons ?_ | refine MI.gv_cmp ?_ | refine MI.gv_chain ?_ | refine MI.gv_ife ?_ | refine MI.gv_idx ?_ | refine MI.gv_slice ?_ | refine MI.go_none ?_ | refine MI.go_some ?_ | refine MI.gv_rev ?_ | refine MI.gv_call ?_ | refine MI.gv_callK ?_ | refine MI.gv_bi ?_ | refine MI.gv_comp ?_ | refine MI.gv_pop ?_ | refine MI.gv_append ?_ | refine MI.gv_dct ?_ | refine MI.gt_not ?_ | refine MI.gt_and ?_ | refine MI.gt_or ?_ | refine MI.gandt_one ?_ | refine MI.gandt_cons ?_ | refine MI.gort_one ?_ | refine MI.gort_cons ?_ | refine MI.gt_val ?_ | refine MI.gifs_nil ?_ | refine MI.gifs_cons ?_ | refine MI.gif_true ?_ | refine MI.gif_false ?_ | refine MI.gif_not ?_ | refine MI.gb_add ?_ | refine MI.gb_sub ?_ | refine MI.gm_lt ?_ | refine MI.gm_le ?_ | refine MI.gm_gt ?_ | refine MI.gm_ge ?_ | refine MI.gm_eq ?_ | refine MI.gm_ne ?_ | refine MI.gm_seq ?_ | refine MI.gtr_bl ?_ | refine MI.gtr_int ?_ | refine MI.gbi_int_int ?_ | refine MI.gbi_int_bool ?_ | refine MI.gbi_int_tup ?_ | refine MI.gbi_int_list ?_ | refine MI.gbi_int_dict ?_ | refine MI.gbi_tup_tup ?_ | refine MI.gbi_bl_tup ?_ | refine MI.gbi_bl_list ?_ | refine MI.gbi_bl_dict ?_ | refine MI.gbi_bl_bool ?_ | refine MI.gbi_len_tup ?_ | refine MI.gbi_int1 ?_ | refine MI.gbi_max ?_)
      | with_reducible refine MI.gv_tup ?_
      | with_reducible refine MI.gv_lst ?_
      | with_reducible refine MI.gb_mod (by first | decide | omega) ?_
      | with_reducible refine MI.gb_div (by first | decide | assumption) ?_
      | with_reducible refine MI.gb_mul (by first | decide | assumption) ?_
      | with_reducible refine MI.gb_pow (by decide) ?_
      | with_reducible refine MI.gif_dec_t (by first | assumption | omega | decide) ?_
      | with_reducible refine MI.gif_dec_f (by first | assumption | omega | decide) ?_
      | refine MI.gif_t rfl ?_
      | refine MI.gif_f rfl ?_
      | with_reducible refine MI.grg_of (by omega) (by omega) ?_
      | refine MI.gx_of rfl ?_
      | refine MI.gbi_of rfl ?_
      | refine ⟨_, rfl, ?_⟩
      | refine ⟨_, _, rfl, rfl, ?_⟩
      | refine MI.glc_next rfl ?_
      | refine MI.glc_end rfl ?_
      | refine MI.glf_next rfl ?_
      | refine MI.glf_end rfl ?_
      | refine ⟨Nat.le_of_ble_eq_true rfl, ?_⟩)
    refine s_pickT d1 (by omega) (by decide) (by decide) fun v hv st2 d2 f2 => ?_
    repeat (first
      | with_reducible (first | refine MI.gss_cons ?_ | refine MI.gss_nil ?_ | refine MI.gn_next ?_ | refine MI.gn_ret ?_ | refine MI.gn_brk ?_ | refine MI.gn_cont ?_ | refine MI.gk_next ?_ | refine MI.gk_cont ?_ | refine MI.gk_brk ?_ | refine MI.gk_ret ?_ | refine MI.gf_ret ?_ | refine MI.gf_next ?_ | refine MI.gs_asg ?_ | refine MI.gs_asgT ?_ | refine MI.gs_par ?_ | refine MI.gs_put ?_ | refine MI.gs_if ?_ | refine MI.gs_ret ?_ | refine MI.gs_retN ?_ | refine MI.gs_expr ?_ | refine MI.gs_pass ?_ | refine MI.gs_brk ?_ | refine MI.gs_cont ?_ | refine MI.gs_while ?_ | refine MI.gs_for ?_ | refine MI.ge_of ?_ | refine MI.ga_val ?_ | refine MI.ga_new ?_ | refine MI.gl_nil ?_ | refine MI.gl_cons ?_ | refine MI.gr_nil ?_ | refine MI.gr_cons ?_ | refine MI.gi_rng ?_ | refine MI.gi_of ?_ | refine MI.gv_name ?_ | refine MI.gv_int ?_ | refine MI.gv_bl ?_ | refine MI.gv_str ?_ | refine MI.gv_non ?_ | refine MI.gv_ty ?_ | refine MI.gv_glob ?_ | refine MI.gv_bin ?_ | refine MI.gv_neg ?_ | refine MI.gv_not ?_ | refine MI.gv_and ?_ | refine MI.gv_or ?_ | refine MI.gand_one ?_ | refine MI.gand_cons ?_ | refine MI.gor_one ?_ | refine MI.gor_cons ?_ | refine MI.gv_cmp ?_ | refine MI.gv_chain ?_ | refine MI.gv_ife ?_ | refine MI.gv_idx ?_ | refine MI.gv_slice ?_ | refine MI.go_none ?_ | refine MI.go_some ?_ | refine MI.gv_rev ?_ | refine MI.gv_call ?_ | refine MI.gv_callK ?_ | refine MI.gv_bi ?_ | refine MI.gv_comp ?_ | refine MI.gv_pop ?_ | refine MI.gv_append ?_ | refine MI.gv_dct ?_ | refine MI.gt_not ?_ | refine MI.gt_and ?_ | refine MI.gt_or ?_ | refine MI.gandt_one ?_ | refine MI.gandt_cons ?_ | refine MI.gort_one ?_ | refine MI.gort_cons ?_ | refine MI.gt_val ?_ | refine MI.gifs_nil ?_ | refine MI.gifs_cons ?_ | refine MI.gif_true ?_ | refine MI.gif_false ?_ | refine MI.gif_not ?_ | refine MI.gb_add ?_ | refine MI.gb_sub ?_ | refine MI.gm_lt ?_ | refine MI.gm_le ?_ | refine MI.gm_gt ?_ | refine MI.gm_ge ?_ | refine MI.gm_eq ?_ | refine MI.gm_ne ?_ | refine MI.gm_seq ?_ | refine MI.gtr_bl ?_ | refine MI.gtr_int ?_ | refine MI.gbi_int_int ?_ | refine MI.gbi_int_bool ?_ | refine MI.gbi_int_tup ?_ | refine MI.gbi_int_list ?_ | refine MI.gbi_int_dict ?_ | refine MI.gbi_tup_tup ?_ | refine MI.gbi_bl_tup ?_ | refine MI.gbi_bl_list ?_ | refine MI.gbi_bl_dict ?_ | refine MI.gbi_bl_bool ?_ | refine MI.gbi_len_tup ?_ | refine MI.gbi_int1 ?_ | refine MI.gbi_max ?_)
      | with_reducible refine MI.gv_tup ?_
      | with_reducible refine MI.gv_lst ?_
      | with_reducible refine MI.gb_mod (by first | decide | omega) ?_
      | with_reducible refine MI.gb_div (by first | decide | assumption) ?_
      | with_reducible refine MI.gb_mul (by first | decide | assumption) ?_
      | with_reducible refine MI.gb_pow (by decide) ?_
      | with_reducible refine MI.gif_dec_t (by first | assumption | omega | decide) ?_
      | with_reducible refine MI.gif_dec_f (by first | assumption | omega | decide) ?_
      | refine MI.gif_t rfl ?_
      | refine MI.gif_f rfl ?_
      | with_reducible refine MI.grg_of (by omega) (by omega) ?_
      | refine MI.gx_of rfl ?_
      | refine MI.gbi_of rfl ?_
      | refine ⟨_, rfl, ?_⟩
      | refine ⟨_, _, rfl, rfl, ?_⟩
      | refine MI.glc_next rfl ?_
      | refine MI.glc_end rfl ?_
      | refine MI.glf_next rfl ?_
      | refine MI.glf_end rfl ?_
      | refine ⟨Nat.le_of_ble_eq_true rfl, ?_⟩)
    have hv2 : ∃ c : Int, v = .int c ∧ 0 < c ∧ c ≤ 2001 := by
      rcases mem3 hv with rfl | rfl | rfl <;> exact ⟨_, rfl, by decide, by decide⟩
    obtain ⟨c, rfl, c0, c1⟩ := hv2
    refine s_draw d2 (by omega) (by omega) (by omega) fun r st3 r0 r1 d3 f3 => ?_
    repeat (first
      | with_reducible (first | refine MI.gss_cons ?_ | refine MI.gss_nil ?_ | refine MI.gn_next ?_ | refine MI.gn_ret ?_ | refine MI.gn_brk ?_ | refine MI.gn_cont ?_ | refine MI.gk_next ?_ | refine MI.gk_cont ?_ | refine MI.gk_brk ?_ | refine MI.gk_ret ?_ | refine MI.gf_ret ?_ | refine MI.gf_next ?_ | refine MI.gs_asg ?_ | refine MI.gs_asgT ?_ | refine MI.gs_par ?_ | refine MI.gs_put ?_ | refine MI.gs_if ?_ | refine MI.gs_ret ?_ | refine MI.gs_retN ?_ | refine MI.gs_expr ?_ | refine MI.gs_pass ?_ | refine MI.gs_brk ?_ | refine MI.gs_cont ?_ | refine MI.gs_while ?_ | refine MI.gs_for ?_ | refine MI.ge_of ?_ | refine MI.ga_val ?_ | refine MI.ga_new ?_ | refine MI.gl_nil ?_ | refine MI.gl_cons ?_ | refine MI.gr_nil ?_ | refine MI.gr_cons ?_ | refine MI.gi_rng ?_ | refine MI.gi_of ?_ | refine MI.gv_name ?_ | refine MI.gv_int ?_ | refine MI.gv_bl ?_ | refine MI.gv_str ?_ | refine MI.gv_non ?_ | refine MI.gv_ty ?_ | refine MI.gv_glob ?_ | refine MI.gv_bin ?_ | refine MI.gv_neg ?_ | refine MI.gv_not ?_ | refine MI.gv_and ?_ | refine MI.gv_or ?_ | refine MI.gand_one ?_ | refine MI.gand_cons ?_ | refine MI.gor_one ?_ | refine MI.gor_cons ?_ | refine MI.gv_cmp ?_ | refine MI.gv_chain ?_ | refine MI.gv_ife ?_ | refine MI.gv_idx ?_ | refine MI.gv_slice ?_ | refine MI.go_none ?_ | refine MI.go_some ?_ | refine MI.gv_rev ?_ | refine MI.gv_call ?_ | refine MI.gv_callK ?_ | refine MI.gv_bi ?_ | refine MI.gv_comp ?_ | refine MI.gv_pop ?_ | refine MI.gv_append ?_ | refine MI.gv_dct ?_ | refine MI.gt_not ?_ | refine MI.gt_and ?_ | refine MI.gt_or ?_ | refine MI.gandt_one ?_ | refine MI.gandt_cons ?_ | refine MI.gort_one ?_ | refine MI.gort_cons ?_ | refine MI.gt_val ?_ | refine MI.gifs_nil ?_ | refine MI.gifs_cons ?_ | refine MI.gif_true ?_ | refine MI.gif_false ?_ | refine MI.gif_not ?_ | refine MI.gb_add ?_ | refine MI.gb_sub ?_ | refine MI.gm_lt ?_ | refine MI.gm_le ?_ | refine MI.gm_gt ?_ | refine MI.gm_ge ?_ | refine MI.gm_eq ?_ | refine MI.gm_ne ?_ | refine MI.gm_seq ?_ | refine MI.gtr_bl ?_ | refine MI.gtr_int ?_ | refine MI.gbi_int_int ?_ | refine MI.gbi_int_bool ?_ | refine MI.gbi_int_tup ?_ | refine MI.gbi_int_list ?_ | refine MI.gbi_int_dict ?_ | refine MI.gbi_tup_tup ?_ | refine MI.gbi_bl_tup ?_ | refine MI.gbi_bl_list ?_ | refine MI.gbi_bl_dict ?_ | refine MI.gbi_bl_bool ?_ | refine MI.gbi_len_tup ?_ | refine MI.gbi_int1 ?_ | refine MI.gbi_max ?_)
      | with_reducible refine MI.gv_tup ?_
      | with_reducible refine MI.gv_lst ?_
      | with_reducible refine MI.gb_mod (by first | decide | omega) ?_
      | with_reducible refine MI.gb_div (by first | decide | assumption) ?_
      | with_reducible refine MI.gb_mul (by first | decide | assumption) ?_
      | with_reducible refine MI.gb_pow (by decide) ?_
      | with_reducible refine MI.gif_dec_t (by first | assumption | omega | decide) ?_
      | with_reducible refine MI.gif_dec_f (by first | assumption | omega | decide) ?_
      | refine MI.gif_t rfl ?_
      | refine MI.gif_f rfl ?_
      | with_reducible refine MI.grg_of (by omega) (by omega) ?_
      | refine MI.gx_of rfl ?_
      | refine MI.gbi_of rfl ?_
      | refine ⟨_, rfl, ?_⟩
      | refine ⟨_, _, rfl, rfl, ?_⟩
      | refine MI.glc_next rfl ?_
      | refine MI.glc_end rfl ?_
      | refine MI.glf_next rfl ?_
      | refine MI.glf_end rfl ?_
      | refine ⟨Nat.le_of_ble_eq_true rfl, ?_⟩)
    refine s_pickT d3 (by omega) (by decide) (by decide) fun v hv st4 d4 f4 => ?_
    have hv2 : ∃ c : Int, v = .int c ∧ 0 < c ∧ c ≤ 1000 := by
      rcases mem3 hv with rfl | rfl | rfl <;> exact ⟨_, rfl, by decide, by decide⟩
    obtain ⟨e, rfl, e0, e1⟩ := hv2
    repeat (first
      | with_reducible (first | refine MI.gss_cons ?_ | refine MI.gss_nil ?_ | refine MI.gn_next ?_ | refine MI.gn_ret ?_ | refine MI.gn_brk ?_ | refine MI.gn_cont ?_ | refine MI.gk_next ?_ | refine MI.gk_cont ?_ | refine MI.gk_brk ?_ | refine MI.gk_ret ?_ | refine MI.gf_ret ?_ | refine MI.gf_next ?_ | refine MI.gs_asg ?_ | refine MI.gs_asgT ?_ | refine MI.gs_par ?_ | refine MI.gs_put ?_ | refine MI.gs_if ?_ | refine MI.gs_ret ?_ | refine MI.gs_retN ?_ | refine MI.gs_expr ?_ | refine MI.gs_pass ?_ | refine MI.gs_brk ?_ | refine MI.gs_cont ?_ | refine MI.gs_while ?_ | refine MI.gs_for ?_ | refine MI.ge_of ?_ | refine MI.ga_val ?_ | refine MI.ga_new ?_ | refine MI.gl_nil ?_ | refine MI.gl_cons ?_ | refine MI.gr_nil ?_ | refine MI.gr_cons ?_ | refine MI.gi_rng ?_ | refine MI.gi_of ?_ | refine MI.gv_name ?_ | refine MI.gv_int ?_ | refine MI.gv_bl ?_ | refine MI.gv_str ?_ | refine MI.gv_non ?_ | refine MI.gv_ty ?_ | refine MI.gv_glob ?_ | refine MI.gv_bin ?_ | refine MI.gv_neg ?_ | refine MI.gv_not ?_ | refine MI.gv_and ?_ | refine MI.gv_or ?_ | refine MI.gand_one ?_ | refine MI.gand_cons ?_ | refine MI.gor_one ?_ | refine MI.gor_cons ?_ | refine MI.gv_cmp ?_ | refine MI.gv_chain ?_ | refine MI.gv_ife ?_ | refine MI.gv_idx ?_ | refine MI.gv_slice ?_ | refine MI.go_none ?_ | refine MI.go_some ?_ | refine MI.gv_rev ?_ | refine MI.gv_call ?_ | refine MI.gv_callK ?_ | refine MI.gv_bi ?_ | refine MI.gv_comp ?_ | refine MI.gv_pop ?_ | refine MI.gv_append ?_ | refine MI.gv_dct ?_ | refine MI.gt_not ?_ | refine MI.gt_and ?_ | refine MI.gt_or ?_ | refine MI.gandt_one ?_ | refine MI.gandt_cons ?_ | refine MI.gort_one ?_ | refine MI.gort_cons ?_ | refine MI.gt_val ?_ | refine MI.gifs_nil ?_ | refine MI.gifs_cons ?_ | refine MI.gif_true ?_ | refine MI.gif_false ?_ | refine MI.gif_not ?_ | refine MI.gb_add ?_ | refine MI.gb_sub ?_ | refine MI.gm_lt ?_ | refine MI.gm_le ?_ | refine MI.gm_gt ?_ | refine MI.gm_ge ?_ | refine MI.gm_eq ?_ | refine MI.gm_ne ?_ | refine MI.gm_seq ?_ | refine MI.gtr_bl ?_ | refine MI.gtr_int ?_ | refine MI.gbi_int_int ?_ | refine MI.gbi_int_bool ?_ | refine MI.gbi_int_tup ?_ | refine MI.gbi_int_list ?_ | refine MI.gbi_int_dict ?_ | refine MI.gbi_tup_tup ?_ | refine MI.gbi_bl_tup ?_ | refine MI.gbi_bl_list ?_ | refine MI.gbi_bl_dict ?_ | refine MI.gbi_bl_bool ?_ | refine MI.gbi_len_tup ?_ | refine MI.gbi_int1 ?_ | refine MI.gbi_max ?_)
      | with_reducible refine MI.gv_tup ?_
      | with_reducible refine MI.gv_lst ?_
      | with_reducible refine MI.gb_mod (by first | decide | omega) ?_
      | with_reducible refine MI.gb_div (by first | decide | assumption) ?_
      | with_reducible refine MI.gb_mul (by first | decide | assumption) ?_
      | with_reducible refine MI.gb_pow (by decide) ?_
      | with_reducible refine MI.gif_dec_t (by first | assumption | omega | decide) ?_
      | with_reducible refine MI.gif_dec_f (by first | assumption | omega | decide) ?_
      | refine MI.gif_t rfl ?_
      | refine MI.gif_f rfl ?_
      | with_reducible refine MI.grg_of (by omega) (by omega) ?_
      | refine MI.gx_of rfl ?_
      | refine MI.gbi_of rfl ?_
      | refine ⟨_, rfl, ?_⟩
      | refine ⟨_, _, rfl, rfl, ?_⟩
      | refine MI.glc_next rfl ?_
      | refine MI.glc_end rfl ?_
      | refine MI.glf_next rfl ?_
      | refine MI.glf_end rfl ?_
      | refine ⟨Nat.le_of_ble_eq_true rfl, ?_⟩)
    exact q _ _ (sz_mono (a := 12) (by omega) (by decide)) (d4.mono (by omega)) (f1.trans (f2.trans (f3.trans f4)))
  · repeat (first
      | with_reducible (first | refine MI.gss_cons ?_ | refine MI.gss_nil ?_ | refine MI.gn_next ?_ | refine MI.gn_ret ?_ | refine MI.gn_brk ?_ | refine MI.gn_cont ?_ | refine MI.gk_next ?_ | refine MI.gk_cont ?_ | refine MI.gk_brk ?_ | refine MI.gk_ret ?_ | refine MI.gf_ret ?_ | refine MI.gf_next ?_ | refine MI.gs_asg ?_ | refine MI.gs_asgT ?_ | refine MI.gs_par ?_ | refine MI.gs_put ?_ | refine MI.gs_if ?_ | refine MI.gs_ret ?_ | refine MI.gs_retN ?_ | refine MI.gs_expr ?_ | refine MI.gs_pass ?_ | refine MI.gs_brk ?_ | refine MI.gs_cont ?_ | refine MI.gs_while ?_ | refine MI.gs_for ?_ | refine MI.ge_of ?_ | refine MI.ga_val ?_ | refine MI.ga_new ?_ | refine MI.gl_nil ?_ | refine MI.gl_cons ?_ | refine MI.gr_nil ?_ | refine MI.gr_cons ?_ | refine MI.gi_rng ?_ | refine MI.gi_of ?_ | refine MI.gv_name ?_ | refine MI.gv_int ?_ | refine MI.gv_bl ?_ | refine MI.gv_str ?_ | refine MI.gv_non ?_ | refine MI.gv_ty ?_ | refine MI.gv_glob ?_ | refine MI.gv_bin ?_ | refine MI.gv_neg ?_ | refine MI.gv_not ?_ | refine MI.gv_and ?_ | refine MI.gv_or ?_ | refine MI.gand_one ?_ | refine MI.gand_cons ?_ | refine MI.gor_one ?_ | refine MI.gor_cons ?_ | refine MI.gv_cmp ?_ | refine MI.gv_chain ?_ | refine MI.gv_ife ?_ | refine MI.gv_idx ?_ | refine MI.gv_slice ?_ | refine MI.go_none ?_ | refine MI.go_some ?_ | refine MI.gv_rev ?_ | refine MI.gv_call ?_ | refine MI.gv_callK ?_ | refine MI.gv_bi ?_ | refine MI.gv_comp ?_ | refine MI.gv_pop ?_ | refine MI.gv_append ?_ | refine MI.gv_dct ?_ | refine MI.gt_not ?_ | refine MI.gt_and ?_ | refine MI.gt_or ?_ | refine MI.gandt_one ?_ | refine MI.gandt_cons ?_ | refine MI.gort_one ?_ | refine MI.gort_cons ?_ | refine MI.gt_val ?_ | refine MI.gifs_nil ?_ | refine MI.gifs_cons ?_ | refine MI.gif_true ?_ | refine MI.gif_false ?_ | refine MI.gif_not ?_ | refine MI.gb_add ?_ | refine MI.gb_sub ?_ | refine MI.gm_lt ?_ | refine MI.gm_le ?_ | refine MI.gm_gt ?_ | refine MI.gm_ge ?_ | refine MI.gm_eq ?_ | refine MI.gm_ne ?_ | refine MI.gm_seq ?_ | refine MI.gtr_bl ?_ | refine MI.gtr_int ?_ | refine MI.gbi_int_int ?_ | refine MI.gbi_int_bool ?_ | refine MI.gbi_int_tup ?_ | refine MI.gbi_int_list ?_ | refine MI.gbi_int_dict ?_ | refine MI.gbi_tup_tup ?_ | refine MI.gbi_bl_tup ?_ | refine MI.gbi_bl_list ?_ | refine MI.gbi_bl_dict ?_ | refine MI.gbi_bl_bool ?_ | refine MI.gbi_len_tup ?_ | refine MI.gbi_int1 ?_ | refine MI.gbi_max ?_)
      | with_reducible refine MI.gv_tup ?_
      | with_reducible refine MI.gv_lst ?_
      | with_reducible refine MI.gb_mod (by first | decide | omega) ?_
      | with_reducible refine MI.gb_div (by first | decide | assumption) ?_
      | with_reducible refine MI.gb_mul (by first | decide | assumption) ?_
      | with_reducible refine MI.gb_pow (by decide) ?_
      | with_reducible refine MI.gif_dec_t (by first | assumption | omega | decide) ?_
      | with_reducible refine MI.gif_dec_f (by first | assumption | omega | decide) ?_
      | refine MI.gif_t rfl ?_
      | refine MI.gif_f rfl ?_
      | with_reducible refine MI.grg_of (by omega) (by omega) ?_
      | refine MI.gx_of rfl ?_
      | refine MI.gbi_of rfl ?_
      | refine ⟨_, rfl, ?_⟩
      | refine ⟨_, _, rfl, rfl, ?_⟩
      | refine MI.glc_next rfl ?_
      | refine MI.glc_end rfl ?_
      | refine MI.glf_next rfl ?_
      | refine MI.glf_end rfl ?_
      | refine ⟨Nat.le_of_ble_eq_true rfl, ?_⟩)
    refine s_draw d1 (by omega) (by omega) (by omega) fun fg st2 g0 g1 d2 f2 => ?_
    repeat (first
      | with_reducible (first | refine MI.gss_cons ?_ | refine MI.gss_nil ?_ | refine MI.gn_next ?_ | refine MI.gn_ret ?_ | refine MI.gn_brk ?_ | refine MI.gn_cont ?_ | refine MI.gk_next ?_ | refine MI.gk_cont ?_ | refine MI.gk_brk ?_ | refine MI.gk_ret ?_ | refine MI.gf_ret ?_ | refine MI.gf_next ?_ | refine MI.gs_asg ?_ | refine MI.gs_asgT ?_ | refine MI.gs_par ?_ | refine MI.gs_put ?_ | refine MI.gs_if ?_ | refine MI.gs_ret ?_ | refine MI.gs_retN ?_ | refine MI.gs_expr ?_ | refine MI.gs_pass ?_ | refine MI.gs_brk ?_ | refine MI.gs_cont ?_ | refine MI.gs_while ?_ | refine MI.gs_for ?_ | refine MI.ge_of ?_ | refine MI.ga_val ?_ | refine MI.ga_new ?_ | refine MI.gl_nil ?_ | refine MI.gl_cons ?_ | refine MI.gr_nil ?_ | refine MI.gr_cons ?_ | refine MI.gi_rng ?_ | refine MI.gi_of ?_ | refine MI.gv_name ?_ | refine MI.gv_int ?_ | refine MI.gv_bl ?_ | refine MI.gv_str ?_ | refine MI.gv_non ?_ | refine MI.gv_ty ?_ | refine MI.gv_glob ?_ | refine MI.gv_bin ?_ | refine MI.gv_neg ?_ | refine MI.gv_not ?_ | refine MI.gv_and ?_ | refine MI.gv_or ?_ | refine MI.gand_one ?_ | refine MI.gand_cons ?_ | refine MI.gor_one ?_ | refine MI.gor_cons ?_ | refine MI.gv_cmp ?_ | refine MI.gv_chain ?_ | refine MI.gv_ife ?_ | refine MI.gv_idx ?_ | refine MI.gv_slice ?_ | refine MI.go_none ?_ | refine MI.go_some ?_ | refine MI.gv_rev ?_ | refine MI.gv_call ?_ | refine MI.gv_callK ?_ | refine MI.gv_bi ?_ | refine MI.gv_comp ?_ | refine MI.gv_pop ?_ | refine MI.gv_append ?_ | refine MI.gv_dct ?_ | refine MI.gt_not ?_ | refine MI.gt_and ?_ | refine MI.gt_or ?_ | refine MI.gandt_one ?_ | refine MI.gandt_cons ?_ | refine MI.gort_one ?_ | refine MI.gort_cons ?_ | refine MI.gt_val ?_ | refine MI.gifs_nil ?_ | refine MI.gifs_cons ?_ | refine MI.gif_true ?_ | refine MI.gif_false ?_ | refine MI.gif_not ?_ | refine MI.gb_add ?_ | refine MI.gb_sub ?_ | refine MI.gm_lt ?_ | refine MI.gm_le ?_ | refine MI.gm_gt ?_ | refine MI.gm_ge ?_ | refine MI.gm_eq ?_ | refine MI.gm_ne ?_ | refine MI.gm_seq ?_ | refine MI.gtr_bl ?_ | refine MI.gtr_int ?_ | refine MI.gbi_int_int ?_ | refine MI.gbi_int_bool ?_ | refine MI.gbi_int_tup ?_ | refine MI.gbi_int_list ?_ | refine MI.gbi_int_dict ?_ | refine MI.gbi_tup_tup ?_ | refine MI.gbi_bl_tup ?_ | refine MI.gbi_bl_list ?_ | refine MI.gbi_bl_dict ?_ | refine MI.gbi_bl_bool ?_ | refine MI.gbi_len_tup ?_ | refine MI.gbi_int1 ?_ | refine MI.gbi_max ?_)
      | with_reducible refine MI.gv_tup ?_
      | with_reducible refine MI.gv_lst ?_
      | with_reducible refine MI.gb_mod (by first | decide | omega) ?_
      | with_reducible refine MI.gb_div (by first | decide | assumption) ?_
      | with_reducible refine MI.gb_mul (by first | decide | assumption) ?_
      | with_reducible refine MI.gb_pow (by decide) ?_
      | with_reducible refine MI.gif_dec_t (by first | assumption | omega | decide) ?_
      | with_reducible refine MI.gif_dec_f (by first | assumption | omega | decide) ?_
      | refine MI.gif_t rfl ?_
      | refine MI.gif_f rfl ?_
      | with_reducible refine MI.grg_of (by omega) (by omega) ?_
      | refine MI.gx_of rfl ?_
      | refine MI.gbi_of rfl ?_
      | refine ⟨_, rfl, ?_⟩
      | refine ⟨_, _, rfl, rfl, ?_⟩
      | refine MI.glc_next rfl ?_
      | refine MI.glc_end rfl ?_
      | refine MI.glf_next rfl ?_
      | refine MI.glf_end rfl ?_
      | refine ⟨Nat.le_of_ble_eq_true rfl, ?_⟩)
    have fin : ∀ (N2 : Nat) (found : Int) (st3 : Store) (z1 z2 z3 : Option PV), found.natAbs < 2 ^ 2000 → DeckSt D L N2 st3 → N2 ≤ N + 39 → Fr D L st2 st3 → GSs G (d + 2) [(.ret (.ife (.tval (.cmp .Eq (.call 20 [(.var 0), (.lit (.int 2))]) (.lit (.int 0)))) (.neg (.var 4)) (.var 4)))] [some (.ref D), some (.int most), some (.int way), some (.int (1 + fg)), some (.int found), z1, z2, z3] st3 (GF Q) := by
      intro N2 found st3 z1 z2 z3 hf d3 hN2 f3
      repeat (first
        | with_reducible (first | refine MI.gss_cons ?_ | refine MI.gss_nil ?_ | refine MI.gn_next ?_ | refine MI.gn_ret ?_ | refine MI.gn_brk ?_ | refine MI.gn_cont ?_ | refine MI.gk_next ?_ | refine MI.gk_cont ?_ | refine MI.gk_brk ?_ | refine MI.gk_ret ?_ | refine MI.gf_ret ?_ | refine MI.gf_next ?_ | refine MI.gs_asg ?_ | refine MI.gs_asgT ?_ | refine MI.gs_par ?_ | refine MI.gs_put ?_ | refine MI.gs_if ?_ | refine MI.gs_ret ?_ | refine MI.gs_retN ?_ | refine MI.gs_expr ?_ | refine MI.gs_pass ?_ | refine MI.gs_brk ?_ | refine MI.gs_cont ?_ | refine MI.gs_while ?_ | refine MI.gs_for ?_ | refine MI.ge_of ?_ | refine MI.ga_val ?_ | refine MI.ga_new ?_ | refine MI.gl_nil ?_ | refine MI.gl_cons ?_ | refine MI.gr_nil ?_ | refine MI.gr_cons ?_ | refine MI.gi_rng ?_ | refine MI.gi_of ?_ | refine MI.gv_name ?_ | refine MI.gv_int ?_ | refine MI.gv_bl ?_ | refine MI.gv_str ?_ | refine MI.gv_non ?_ | refine MI.gv_ty ?_ | refine MI.gv_glob ?_ | refine MI.gv_bin ?_ | refine MI.gv_neg ?_ | refine MI.gv_not ?_ | refine MI.gv_and ?_ | refine MI.gv_or ?_ | refine MI.gand_one ?_ | refine MI.gand_cons ?_ | refine MI.gor_one ?_ | refine MI.gor_cons ?_ | refine MI.gv_cmp ?_ | refine MI.gv_chain ?_ | refine MI.gv_ife ?_ | refine MI.gv_idx ?_ | refine MI.gv_slice ?_ | refine MI.go_none ?_ | refine MI.go_some ?_ | refine MI.gv_rev ?_ | refine MI.gv_call ?_ | refine MI.gv_callK ?_ | refine MI.gv_bi ?_ | refine MI.gv_comp ?_ | refine MI.gv_pop ?_ | refine MI.gv_append ?_ | refine MI.gv_dct ?_ | refine MI.gt_not ?_ | refine MI.gt_and ?_ | refine MI.gt_or ?_ | refine MI.gandt_one ?_ | refine MI.gandt_cons ?_ | refine MI.gort_one ?_ | refine MI.gort_cons ?_ | refine MI.gt_val ?_ | refine MI.gifs_nil ?_ | refine MI.gifs_cons ?_ | refine MI.gif_true ?_ | refine MI.gif_false ?_ | refine MI.gif_not ?_ | refine MI.gb_add ?_ | refine MI.gb_sub ?_ | refine MI.gm_lt ?_ | refine MI.gm_le ?_ | refine MI.gm_gt ?_ | refine MI.gm_ge ?_ | refine MI.gm_eq ?_ | refine MI.gm_ne ?_ | refine MI.gm_seq ?_ | refine MI.gtr_bl ?_ | refine MI.gtr_int ?_ | refine MI.gbi_int_int ?_ | refine MI.gbi_int_bool ?_ | refine MI.gbi_int_tup ?_ | refine MI.gbi_int_list ?_ | refine MI.gbi_int_dict ?_ | refine MI.gbi_tup_tup ?_ | refine MI.gbi_bl_tup ?_ | refine MI.gbi_bl_list ?_ | refine MI.gbi_bl_dict ?_ | refine MI.gbi_bl_bool ?_ | refine MI.gbi_len_tup ?_ | refine MI.gbi_int1 ?_ | refine MI.gbi_max ?_)
        | with_reducible refine MI.gv_tup ?_
        | with_reducible refine MI.gv_lst ?_
        | with_reducible refine MI.gb_mod (by first | decide | omega) ?_
        | with_reducible refine MI.gb_div (by first | decide | assumption) ?_
        | with_reducible refine MI.gb_mul (by first | decide | assumption) ?_
        | with_reducible refine MI.gb_pow (by decide) ?_
        | with_reducible refine MI.gif_dec_t (by first | assumption | omega | decide) ?_
        | with_reducible refine MI.gif_dec_f (by first | assumption | omega | decide) ?_
        | refine MI.gif_t rfl ?_
        | refine MI.gif_f rfl ?_
        | with_reducible refine MI.grg_of (by omega) (by omega) ?_
        | refine MI.gx_of rfl ?_
        | refine MI.gbi_of rfl ?_
        | refine ⟨_, rfl, ?_⟩
        | refine ⟨_, _, rfl, rfl, ?_⟩
        | refine MI.glc_next rfl ?_
        | refine MI.glc_end rfl ?_
        | refine MI.glf_next rfl ?_
        | refine MI.glf_end rfl ?_
        | refine ⟨Nat.le_of_ble_eq_true rfl, ?_⟩)
      refine s_draw d3 (by omega) (by omega) (by omega) fun r st4 r0 r1 d4 f4 => ?_
      repeat (first
        | with_reducible (first | refine MI.gss_cons ?_ | refine MI.gss_nil ?_ | refine MI.gn_next ?_ | refine MI.gn_ret ?_ | refine MI.gn_brk ?_ | refine MI.gn_cont ?_ | refine MI.gk_next ?_ | refine MI.gk_cont ?_ | refine MI.gk_brk ?_ | refine MI.gk_ret ?_ | refine MI.gf_ret ?_ | refine MI.gf_next ?_ | refine MI.gs_asg ?_ | refine MI.gs_asgT ?_ | refine MI.gs_par ?_ | refine MI.gs_put ?_ | refine MI.gs_if ?_ | refine MI.gs_ret ?_ | refine MI.gs_retN ?_ | refine MI.gs_expr ?_ | refine MI.gs_pass ?_ | refine MI.gs_brk ?_ | refine MI.gs_cont ?_ | refine MI.gs_while ?_ | refine MI.gs_for ?_ | refine MI.ge_of ?_ | refine MI.ga_val ?_ | refine MI.ga_new ?_ | refine MI.gl_nil ?_ | refine MI.gl_cons ?_ | refine MI.gr_nil ?_ | refine MI.gr_cons ?_ | refine MI.gi_rng ?_ | refine MI.gi_of ?_ | refine MI.gv_name ?_ | refine MI.gv_int ?_ | refine MI.gv_bl ?_ | refine MI.gv_str ?_ | refine MI.gv_non ?_ | refine MI.gv_ty ?_ | refine MI.gv_glob ?_ | refine MI.gv_bin ?_ | refine MI.gv_neg ?_ | refine MI.gv_not ?_ | refine MI.gv_and ?_ | refine MI.gv_or ?_ | refine MI.gand_one ?_ | refine MI.gand_cons ?_ | refine MI.gor_one ?_ | refine MI.gor_cons ?_ | refine MI.gv_cmp ?_ | refine MI.gv_chain ?_ | refine MI.gv_ife ?_ | refine MI.gv_idx ?_ | refine MI.gv_slice ?_ | refine MI.go_none ?_ | refine MI.go_some ?_ | refine MI.gv_rev ?_ | refine MI.gv_call ?_ | refine MI.gv_callK ?_ | refine MI.gv_bi ?_ | refine MI.gv_comp ?_ | refine MI.gv_pop ?_ | refine MI.gv_append ?_ | refine MI.gv_dct ?_ | refine MI.gt_not ?_ | refine MI.gt_and ?_ | refine MI.gt_or ?_ | refine MI.gandt_one ?_ | refine MI.gandt_cons ?_ | refine MI.gort_one ?_ | refine MI.gort_cons ?_ | refine MI.gt_val ?_ | refine MI.gifs_nil ?_ | refine MI.gifs_cons ?_ | refine MI.gif_true ?_ | refine MI.gif_false ?_ | refine MI.gif_not ?_ | refine MI.gb_add ?_ | refine MI.gb_sub ?_ | refine MI.gm_lt ?_ | refine MI.gm_le ?_ | refine MI.gm_gt ?_ | refine MI.gm_ge ?_ | refine MI.gm_eq ?_ | refine MI.gm_ne ?_ | refine MI.gm_seq ?_ | refine MI.gtr_bl ?_ | refine MI.gtr_int ?_ | refine MI.gbi_int_int ?_ | refine MI.gbi_int_bool ?_ | refine MI.gbi_int_tup ?_ | refine MI.gbi_int_list ?_ | refine MI.gbi_int_dict ?_ | refine MI.gbi_tup_tup ?_ | refine MI.gbi_bl_tup ?_ | refine MI.gbi_bl_list ?_ | refine MI.gbi_bl_dict ?_ | refine MI.gbi_bl_bool ?_ | refine MI.gbi_len_tup ?_ | refine MI.gbi_int1 ?_ | refine MI.gbi_max ?_)
        | with_reducible refine MI.gv_tup ?_
        | with_reducible refine MI.gv_lst ?_
        | with_reducible refine MI.gb_mod (by first | decide | omega) ?_
        | with_reducible refine MI.gb_div (by first | decide | assumption) ?_
        | with_reducible refine MI.gb_mul (by first | decide | assumption) ?_
        | with_reducible refine MI.gb_pow (by decide) ?_
        | with_reducible refine MI.gif_dec_t (by first | assumption | omega | decide) ?_
        | with_reducible refine MI.gif_dec_f (by first | assumption | omega | decide) ?_
        | refine MI.gif_t rfl ?_
        | refine MI.gif_f rfl ?_
        | with_reducible refine MI.grg_of (by omega) (by omega) ?_
        | refine MI.gx_of rfl ?_
        | refine MI.gbi_of rfl ?_
        | refine ⟨_, rfl, ?_⟩
        | refine ⟨_, _, rfl, rfl, ?_⟩
        | refine MI.glc_next rfl ?_
        | refine MI.glc_end rfl ?_
        | refine MI.glf_next rfl ?_
        | refine MI.glf_end rfl ?_
        | refine ⟨Nat.le_of_ble_eq_true rfl, ?_⟩)
      refine gif_dec (fun h3 => ?_) (fun h3 => ?_)
      · repeat (first
          | with_reducible (first | refine MI.gss_cons ?_ | refine MI.gss_nil ?_ | refine MI.gn_next ?_ | refine MI.gn_ret ?_ | refine MI.gn_brk ?_ | refine MI.gn_cont ?_ | refine MI.gk_next ?_ | refine MI.gk_cont ?_ | refine MI.gk_brk ?_ | refine MI.gk_ret ?_ | refine MI.gf_ret ?_ | refine MI.gf_next ?_ | refine MI.gs_asg ?_ | refine MI.gs_asgT ?_ | refine MI.gs_par ?_ | refine MI.gs_put ?_ | refine MI.gs_if ?_ | refine MI.gs_ret ?_ | refine MI.gs_retN ?_ | refine MI.gs_expr ?_ | refine MI.gs_pass ?_ | refine MI.gs_brk ?_ | refine MI.gs_cont ?_ | refine MI.gs_while ?_ | refine MI.gs_for ?_ | refine MI.ge_of ?_ | refine MI.ga_val ?_ | refine MI.ga_new ?_ | refine MI.gl_nil ?_ | refine MI.gl_cons ?_ | refine MI.gr_nil ?_ | refine MI.gr_cons ?_ | refine MI.gi_rng ?_ | refine MI.gi_of ?_ | refine MI.gv_name ?_ | refine MI.gv_int ?_ | refine MI.gv_bl ?_ | refine MI.gv_str ?_ | refine MI.gv_non ?_ | refine MI.gv_ty ?_ | refine MI.gv_glob ?_ | refine MI.gv_bin ?_ | refine MI.gv_neg ?_ | refine MI.gv_not ?_ | refine MI.gv_and ?_ | refine MI.gv_or ?_ | refine MI.gand_one ?_ | refine MI.gand_cons ?_ | refine MI.gor_one ?_ | refine MI.gor_cons ?_ | refine MI.gv_cmp ?_ | refine MI.gv_chain ?_ | refine MI.gv_ife ?_ | refine MI.gv_idx ?_ | refine MI.gv_slice ?_ | refine MI.go_none ?_ | refine MI.go_some ?_ | refine MI.gv_rev ?_ | refine MI.gv_call ?_ | refine MI.gv_callK ?_ | refine MI.gv_bi ?_ | refine MI.gv_comp ?_ | refine MI.gv_pop ?_ | refine MI.gv_append ?_ | refine MI.gv_dct ?_ | refine MI.gt_not ?_ | refine MI.gt_and ?_ | refine MI.gt_or ?_ | refine MI.gandt_one ?_ | refine MI.gandt_cons ?_ | refine MI.gort_one ?_ | refine MI.gort_cons ?_ | refine MI.gt_val ?_ | refine MI.gifs_nil ?_ | refine MI.gifs_cons ?_ | refine MI.gif_true ?_ | refine MI.gif_false ?_ | refine MI.gif_not ?_ | refine MI.gb_add ?_ | refine MI.gb_sub ?_ | refine MI.gm_lt ?_ | refine MI.gm_le ?_ | refine MI.gm_gt ?_ | refine MI.gm_ge ?_ | refine MI.gm_eq ?_ | refine MI.gm_ne ?_ | refine MI.gm_seq ?_ | refine MI.gtr_bl ?_ | refine MI.gtr_int ?_ | refine MI.gbi_int_int ?_ | refine MI.gbi_int_bool ?_ | refine MI.gbi_int_tup ?_ | refine MI.gbi_int_list ?_ | refine MI.gbi_int_dict ?_ | refine MI.gbi_tup_tup ?_ | refine MI.gbi_bl_tup ?_ | refine MI.gbi_bl_list ?_ | refine MI.gbi_bl_dict ?_ | refine MI.gbi_bl_bool ?_ | refine MI.gbi_len_tup ?_ | refine MI.gbi_int1 ?_ | refine MI.gbi_max ?_)
          | with_reducible refine MI.gv_tup ?_
          | with_reducible refine MI.gv_lst ?_
          | with_reducible refine MI.gb_mod (by first | decide | omega) ?_
          | with_reducible refine MI.gb_div (by first | decide | assumption) ?_
          | with_reducible refine MI.gb_mul (by first | decide | assumption) ?_
          | with_reducible refine MI.gb_pow (by decide) ?_
          | with_reducible refine MI.gif_dec_t (by first | assumption | omega | decide) ?_
          | with_reducible refine MI.gif_dec_f (by first | assumption | omega | decide) ?_
          | refine MI.gif_t rfl ?_
          | refine MI.gif_f rfl ?_
          | with_reducible refine MI.grg_of (by omega) (by omega) ?_
          | refine MI.gx_of rfl ?_
          | refine MI.gbi_of rfl ?_
          | refine ⟨_, rfl, ?_⟩
          | refine ⟨_, _, rfl, rfl, ?_⟩
          | refine MI.glc_next rfl ?_
          | refine MI.glc_end rfl ?_
          | refine MI.glf_next rfl ?_
          | refine MI.glf_end rfl ?_
          | refine ⟨Nat.le_of_ble_eq_true rfl, ?_⟩)
        exact q _ _ (sz_neg hf) (d4.mono (by omega)) (f1.trans (f2.trans (f3.trans f4)))
      · repeat (first
          | with_reducible (first | refine MI.gss_cons ?_ | refine MI.gss_nil ?_ | refine MI.gn_next ?_ | refine MI.gn_ret ?_ | refine MI.gn_brk ?_ | refine MI.gn_cont ?_ | refine MI.gk_next ?_ | refine MI.gk_cont ?_ | refine MI.gk_brk ?_ | refine MI.gk_ret ?_ | refine MI.gf_ret ?_ | refine MI.gf_next ?_ | refine MI.gs_asg ?_ | refine MI.gs_asgT ?_ | refine MI.gs_par ?_ | refine MI.gs_put ?_ | refine MI.gs_if ?_ | refine MI.gs_ret ?_ | refine MI.gs_retN ?_ | refine MI.gs_expr ?_ | refine MI.gs_pass ?_ | refine MI.gs_brk ?_ | refine MI.gs_cont ?_ | refine MI.gs_while ?_ | refine MI.gs_for ?_ | refine MI.ge_of ?_ | refine MI.ga_val ?_ | refine MI.ga_new ?_ | refine MI.gl_nil ?_ | refine MI.gl_cons ?_ | refine MI.gr_nil ?_ | refine MI.gr_cons ?_ | refine MI.gi_rng ?_ | refine MI.gi_of ?_ | refine MI.gv_name ?_ | refine MI.gv_int ?_ | refine MI.gv_bl ?_ | refine MI.gv_str ?_ | refine MI.gv_non ?_ | refine MI.gv_ty ?_ | refine MI.gv_glob ?_ | refine MI.gv_bin ?_ | refine MI.gv_neg ?_ | refine MI.gv_not ?_ | refine MI.gv_and ?_ | refine MI.gv_or ?_ | refine MI.gand_one ?_ | refine MI.gand_cons ?_ | refine MI.gor_one ?_ | refine MI.gor_cons ?_ | refine MI.gv_cmp ?_ | refine MI.gv_chain ?_ | refine MI.gv_ife ?_ | refine MI.gv_idx ?_ | refine MI.gv_slice ?_ | refine MI.go_none ?_ | refine MI.go_some ?_ | refine MI.gv_rev ?_ | refine MI.gv_call ?_ | refine MI.gv_callK ?_ | refine MI.gv_bi ?_ | refine MI.gv_comp ?_ | refine MI.gv_pop ?_ | refine MI.gv_append ?_ | refine MI.gv_dct ?_ | refine MI.gt_not ?_ | refine MI.gt_and ?_ | refine MI.gt_or ?_ | refine MI.gandt_one ?_ | refine MI.gandt_cons ?_ | refine MI.gort_one ?_ | refine MI.gort_cons ?_ | refine MI.gt_val ?_ | refine MI.gifs_nil ?_ | refine MI.gifs_cons ?_ | refine MI.gif_true ?_ | refine MI.gif_false ?_ | refine MI.gif_not ?_ | refine MI.gb_add ?_ | refine MI.gb_sub ?_ | refine MI.gm_lt ?_ | refine MI.gm_le ?_ | refine MI.gm_gt ?_ | refine MI.gm_ge ?_ | refine MI.gm_eq ?_ | refine MI.gm_ne ?_ | refine MI.gm_seq ?_ | refine MI.gtr_bl ?_ | refine MI.gtr_int ?_ | refine MI.gbi_int_int ?_ | refine MI.gbi_int_bool ?_ | refine MI.gbi_int_tup ?_ | refine MI.gbi_int_list ?_ | refine MI.gbi_int_dict ?_ | refine MI.gbi_tup_tup ?_ | refine MI.gbi_bl_tup ?_ | refine MI.gbi_bl_list ?_ | refine MI.gbi_bl_dict ?_ | refine MI.gbi_bl_bool ?_ | refine MI.gbi_len_tup ?_ | refine MI.gbi_int1 ?_ | refine MI.gbi_max ?_)
          | with_reducible refine MI.gv_tup ?_
          | with_reducible refine MI.gv_lst ?_
          | with_reducible refine MI.gb_mod (by first | decide | omega) ?_
          | with_reducible refine MI.gb_div (by first | decide | assumption) ?_
          | with_reducible refine MI.gb_mul (by first | decide | assumption) ?_
          | with_reducible refine MI.gb_pow (by decide) ?_
          | with_reducible refine MI.gif_dec_t (by first | assumption | omega | decide) ?_
          | with_reducible refine MI.gif_dec_f (by first | assumption | omega | decide) ?_
          | refine MI.gif_t rfl ?_
          | refine MI.gif_f rfl ?_
          | with_reducible refine MI.grg_of (by omega) (by omega) ?_
          | refine MI.gx_of rfl ?_
          | refine MI.gbi_of rfl ?_
          | refine ⟨_, rfl, ?_⟩
          | refine ⟨_, _, rfl, rfl, ?_⟩
          | refine MI.glc_next rfl ?_
          | refine MI.glc_end rfl ?_
          | refine MI.glf_next rfl ?_
          | refine MI.glf_end rfl ?_
          | refine ⟨Nat.le_of_ble_eq_true rfl, ?_⟩)
        exact q _ _ hf (d4.mono (by omega)) (f1.trans (f2.trans (f3.trans f4)))
    refine gif_dec (fun h5 => ?_) (fun h5 => ?_)
    · repeat (first
        | with_reducible (first | refine MI.gss_cons ?_ | refine MI.gss_nil ?_ | refine MI.gn_next ?_ | refine MI.gn_ret ?_ | refine MI.gn_brk ?_ | refine MI.gn_cont ?_ | refine MI.gk_next ?_ | refine MI.gk_cont ?_ | refine MI.gk_brk ?_ | refine MI.gk_ret ?_ | refine MI.gf_ret ?_ | refine MI.gf_next ?_ | refine MI.gs_asg ?_ | refine MI.gs_asgT ?_ | refine MI.gs_par ?_ | refine MI.gs_put ?_ | refine MI.gs_if ?_ | refine MI.gs_ret ?_ | refine MI.gs_retN ?_ | refine MI.gs_expr ?_ | refine MI.gs_pass ?_ | refine MI.gs_brk ?_ | refine MI.gs_cont ?_ | refine MI.gs_while ?_ | refine MI.gs_for ?_ | refine MI.ge_of ?_ | refine MI.ga_val ?_ | refine MI.ga_new ?_ | refine MI.gl_nil ?_ | refine MI.gl_cons ?_ | refine MI.gr_nil ?_ | refine MI.gr_cons ?_ | refine MI.gi_rng ?_ | refine MI.gi_of ?_ | refine MI.gv_name ?_ | refine MI.gv_int ?_ | refine MI.gv_bl ?_ | refine MI.gv_str ?_ | refine MI.gv_non ?_ | refine MI.gv_ty ?_ | refine MI.gv_glob ?_ | refine MI.gv_bin ?_ | refine MI.gv_neg ?_ | refine MI.gv_not ?_ | refine MI.gv_and ?_ | refine MI.gv_or ?_ | refine MI.gand_one ?_ | refine MI.gand_cons ?_ | refine MI.gor_one ?_ | refine MI.gor_cons ?_ | refine MI.gv_cmp ?_ | refine MI.gv_chain ?_ | refine MI.gv_ife ?_ | refine MI.gv_idx ?_ | refine MI.gv_slice ?_ | refine MI.go_none ?_ | refine MI.go_some ?_ | refine MI.gv_rev ?_ | refine MI.gv_call ?_ | refine MI.gv_callK ?_ | refine MI.gv_bi ?_ | refine MI.gv_comp ?_ | refine MI.gv_pop ?_ | refine MI.gv_append ?_ | refine MI.gv_dct ?_ | refine MI.gt_not ?_ | refine MI.gt_and ?_ | refine MI.gt_or ?_ | refine MI.gandt_one ?_ | refine MI.gandt_cons ?_ | refine MI.gort_one ?_ | refine MI.gort_cons ?_ | refine MI.gt_val ?_ | refine MI.gifs_nil ?_ | refine MI.gifs_cons ?_ | refine MI.gif_true ?_ | refine MI.gif_false ?_ | refine MI.gif_not ?_ | refine MI.gb_add ?_ | refine MI.gb_sub ?_ | refine MI.gm_lt ?_ | refine MI.gm_le ?_ | refine MI.gm_gt ?_ | refine MI.gm_ge ?_ | refine MI.gm_eq ?_ | refine MI.gm_ne ?_ | refine MI.gm_seq ?_ | refine MI.gtr_bl ?_ | refine MI.gtr_int ?_ | refine MI.gbi_int_int ?_ | refine MI.gbi_int_bool ?_ | refine MI.gbi_int_tup ?_ | refine MI.gbi_int_list ?_ | refine MI.gbi_int_dict ?_ | refine MI.gbi_tup_tup ?_ | refine MI.gbi_bl_tup ?_ | refine MI.gbi_bl_list ?_ | refine MI.gbi_bl_dict ?_ | refine MI.gbi_bl_bool ?_ | refine MI.gbi_len_tup ?_ | refine MI.gbi_int1 ?_ | refine MI.gbi_max ?_)
        | with_reducible refine MI.gv_tup ?_
        | with_reducible refine MI.gv_lst ?_
        | with_reducible refine MI.gb_mod (by first | decide | omega) ?_
        | with_reducible refine MI.gb_div (by first | decide | assumption) ?_
        | with_reducible refine MI.gb_mul (by first | decide | assumption) ?_
        | with_reducible refine MI.gb_pow (by decide) ?_
        | with_reducible refine MI.gif_dec_t (by first | assumption | omega | decide) ?_
        | with_reducible refine MI.gif_dec_f (by first | assumption | omega | decide) ?_
        | refine MI.gif_t rfl ?_
        | refine MI.gif_f rfl ?_
        | with_reducible refine MI.grg_of (by omega) (by omega) ?_
        | refine MI.gx_of rfl ?_
        | refine MI.gbi_of rfl ?_
        | refine ⟨_, rfl, ?_⟩
        | refine ⟨_, _, rfl, rfl, ?_⟩
        | refine MI.glc_next rfl ?_
        | refine MI.glc_end rfl ?_
        | refine MI.glf_next rfl ?_
        | refine MI.glf_end rfl ?_
        | refine ⟨Nat.le_of_ble_eq_true rfl, ?_⟩)
      refine glf_all (fun i env st3 => ∃ found z, env = [some (.ref D), some (.int most), some (.int way), some (.int (1 + fg)), some (.int found), z, none, none] ∧ found.natAbs < 2 ^ (31 * (i + 1)) ∧ DeckSt D L (N + 2 + i) st3 ∧ Fr D L st2 st3) ⟨0, none, rfl, by decide, d2, .refl⟩ ?_ ?_
      · rintro i x env st3 hi ⟨found, z, rfl, hf, d3, f3⟩
        have hlt := (List.getElem?_eq_some_iff.mp hi).1
        rw [rngL_len] at hlt
        have hi17 : i ≤ 20 := by omega
        refine ⟨_, rfl, ?_⟩
        repeat (first
          | with_reducible (first | refine MI.gss_cons ?_ | refine MI.gss_nil ?_ | refine MI.gn_next ?_ | refine MI.gn_ret ?_ | refine MI.gn_brk ?_ | refine MI.gn_cont ?_ | refine MI.gk_next ?_ | refine MI.gk_cont ?_ | refine MI.gk_brk ?_ | refine MI.gk_ret ?_ | refine MI.gf_ret ?_ | refine MI.gf_next ?_ | refine MI.gs_asg ?_ | refine MI.gs_asgT ?_ | refine MI.gs_par ?_ | refine MI.gs_put ?_ | refine MI.gs_if ?_ | refine MI.gs_ret ?_ | refine MI.gs_retN ?_ | refine MI.gs_expr ?_ | refine MI.gs_pass ?_ | refine MI.gs_brk ?_ | refine MI.gs_cont ?_ | refine MI.gs_while ?_ | refine MI.gs_for ?_ | refine MI.ge_of ?_ | refine MI.ga_val ?_ | refine MI.ga_new ?_ | refine MI.gl_nil ?_ | refine MI.gl_cons ?_ | refine MI.gr_nil ?_ | refine MI.gr_cons ?_ | refine MI.gi_rng ?_ | refine MI.gi_of ?_ | refine MI.gv_name ?_ | refine MI.gv_int ?_ | refine MI.gv_bl ?_ | refine MI.gv_str ?_ | refine MI.gv_non ?_ | refine MI.gv_ty ?_ | refine MI.gv_glob ?_ | refine MI.gv_bin ?_ | refine MI.gv_neg ?_ | refine MI.gv_not ?_ | refine MI.gv_and ?_ | refine MI.gv_or ?_ | refine MI.gand_one ?_ | refine MI.gand_cons ?_ | refine MI.gor_one ?_ | refine MI.gor_cons ?_ | refine MI.gv_cmp ?_ | refine MI.gv_chain ?_ | refine MI.gv_ife ?_ | refine MI.gv_idx ?_ | refine MI.gv_slice ?_ | refine MI.go_none ?_ | refine MI.go_some ?_ | refine MI.gv_rev ?_ | refine MI.gv_call ?_ | refine MI.gv_callK ?_ | refine MI.gv_bi ?_ | refine MI.gv_comp ?_ | refine MI.gv_pop ?_ | refine MI.gv_append ?_ | refine MI.gv_dct ?_ | refine MI.gt_not ?_ | refine MI.gt_and ?_ | refine MI.gt_or ?_ | refine MI.gandt_one ?_ | refine MI.gandt_cons ?_ | refine MI.gort_one ?_ | refine MI.gort_cons ?_ | refine MI.gt_val ?_ | refine MI.gifs_nil ?_ | refine MI.gifs_cons ?_ | refine MI.gif_true ?_ | refine MI.gif_false ?_ | refine MI.gif_not ?_ | refine MI.gb_add ?_ | refine MI.gb_sub ?_ | refine MI.gm_lt ?_ | refine MI.gm_le ?_ | refine MI.gm_gt ?_ | refine MI.gm_ge ?_ | refine MI.gm_eq ?_ | refine MI.gm_ne ?_ | refine MI.gm_seq ?_ | refine MI.gtr_bl ?_ | refine MI.gtr_int ?_ | refine MI.gbi_int_int ?_ | refine MI.gbi_int_bool ?_ | refine MI.gbi_int_tup ?_ | refine MI.gbi_int_list ?_ | refine MI.gbi_int_dict ?_ | refine MI.gbi_tup_tup ?_ | refine MI.gbi_bl_tup ?_ | refine MI.gbi_bl_list ?_ | refine MI.gbi_bl_dict ?_ | refine MI.gbi_bl_bool ?_ | refine MI.gbi_len_tup ?_ | refine MI.gbi_int1 ?_ | refine MI.gbi_max ?_)
          | refine gb_mul (mulOk_of (b := 30) hf (by decide) (by omega)) ?_
          | with_reducible refine MI.gv_tup ?_
          | with_reducible refine MI.gv_lst ?_
          | with_reducible refine MI.gb_mod (by first | decide | omega) ?_
          | with_reducible refine MI.gb_div (by first | decide | assumption) ?_
          | with_reducible refine MI.gb_mul (by first | decide | assumption) ?_
          | with_reducible refine MI.gb_pow (by decide) ?_
          | with_reducible refine MI.gif_dec_t (by first | assumption | omega | decide) ?_
          | with_reducible refine MI.gif_dec_f (by first | assumption | omega | decide) ?_
          | refine MI.gif_t rfl ?_
          | refine MI.gif_f rfl ?_
          | with_reducible refine MI.grg_of (by omega) (by omega) ?_
          | refine MI.gx_of rfl ?_
          | refine MI.gbi_of rfl ?_
          | refine ⟨_, rfl, ?_⟩
          | refine ⟨_, _, rfl, rfl, ?_⟩
          | refine MI.glc_next rfl ?_
          | refine MI.glc_end rfl ?_
          | refine MI.glf_next rfl ?_
          | refine MI.glf_end rfl ?_
          | refine ⟨Nat.le_of_ble_eq_true rfl, ?_⟩)
        refine s_draw d3 (by omega) (by omega) (by omega) fun r st4 r0 r1 d4 f4 => ?_
        repeat (first
          | with_reducible (first | refine MI.gss_cons ?_ | refine MI.gss_nil ?_ | refine MI.gn_next ?_ | refine MI.gn_ret ?_ | refine MI.gn_brk ?_ | refine MI.gn_cont ?_ | refine MI.gk_next ?_ | refine MI.gk_cont ?_ | refine MI.gk_brk ?_ | refine MI.gk_ret ?_ | refine MI.gf_ret ?_ | refine MI.gf_next ?_ | refine MI.gs_asg ?_ | refine MI.gs_asgT ?_ | refine MI.gs_par ?_ | refine MI.gs_put ?_ | refine MI.gs_if ?_ | refine MI.gs_ret ?_ | refine MI.gs_retN ?_ | refine MI.gs_expr ?_ | refine MI.gs_pass ?_ | refine MI.gs_brk ?_ | refine MI.gs_cont ?_ | refine MI.gs_while ?_ | refine MI.gs_for ?_ | refine MI.ge_of ?_ | refine MI.ga_val ?_ | refine MI.ga_new ?_ | refine MI.gl_nil ?_ | refine MI.gl_cons ?_ | refine MI.gr_nil ?_ | refine MI.gr_cons ?_ | refine MI.gi_rng ?_ | refine MI.gi_of ?_ | refine MI.gv_name ?_ | refine MI.gv_int ?_ | refine MI.gv_bl ?_ | refine MI.gv_str ?_ | refine MI.gv_non ?_ | refine MI.gv_ty ?_ | refine MI.gv_glob ?_ | refine MI.gv_bin ?_ | refine MI.gv_neg ?_ | refine MI.gv_not ?_ | refine MI.gv_and ?_ | refine MI.gv_or ?_ | refine MI.gand_one ?_ | refine MI.gand_cons ?_ | refine MI.gor_one ?_ | refine MI.gor_cons ?_ | refine MI.gv_cmp ?_ | refine MI.gv_chain ?_ | refine MI.gv_ife ?_ | refine MI.gv_idx ?_ | refine MI.gv_slice ?_ | refine MI.go_none ?_ | refine MI.go_some ?_ | refine MI.gv_rev ?_ | refine MI.gv_call ?_ | refine MI.gv_callK ?_ | refine MI.gv_bi ?_ | refine MI.gv_comp ?_ | refine MI.gv_pop ?_ | refine MI.gv_append ?_ | refine MI.gv_dct ?_ | refine MI.gt_not ?_ | refine MI.gt_and ?_ | refine MI.gt_or ?_ | refine MI.gandt_one ?_ | refine MI.gandt_cons ?_ | refine MI.gort_one ?_ | refine MI.gort_cons ?_ | refine MI.gt_val ?_ | refine MI.gifs_nil ?_ | refine MI.gifs_cons ?_ | refine MI.gif_true ?_ | refine MI.gif_false ?_ | refine MI.gif_not ?_ | refine MI.gb_add ?_ | refine MI.gb_sub ?_ | refine MI.gm_lt ?_ | refine MI.gm_le ?_ | refine MI.gm_gt ?_ | refine MI.gm_ge ?_ | refine MI.gm_eq ?_ | refine MI.gm_ne ?_ | refine MI.gm_seq ?_ | refine MI.gtr_bl ?_ | refine MI.gtr_int ?_ | refine MI.gbi_int_int ?_ | refine MI.gbi_int_bool ?_ | refine MI.gbi_int_tup ?_ | refine MI.gbi_int_list ?_ | refine MI.gbi_int_dict ?_ | refine MI.gbi_tup_tup ?_ | refine MI.gbi_bl_tup ?_ | refine MI.gbi_bl_list ?_ | refine MI.gbi_bl_dict ?_ | refine MI.gbi_bl_bool ?_ | refine MI.gbi_len_tup ?_ | refine MI.gbi_int1 ?_ | refine MI.gbi_max ?_)
          | with_reducible refine MI.gv_tup ?_
          | with_reducible refine MI.gv_lst ?_
          | with_reducible refine MI.gb_mod (by first | decide | omega) ?_
          | with_reducible refine MI.gb_div (by first | decide | assumption) ?_
          | with_reducible refine MI.gb_mul (by first | decide | assumption) ?_
          | with_reducible refine MI.gb_pow (by decide) ?_
          | with_reducible refine MI.gif_dec_t (by first | assumption | omega | decide) ?_
          | with_reducible refine MI.gif_dec_f (by first | assumption | omega | decide) ?_
          | refine MI.gif_t rfl ?_
          | refine MI.gif_f rfl ?_
          | with_reducible refine MI.grg_of (by omega) (by omega) ?_
          | refine MI.gx_of rfl ?_
          | refine MI.gbi_of rfl ?_
          | refine ⟨_, rfl, ?_⟩
          | refine ⟨_, _, rfl, rfl, ?_⟩
          | refine MI.glc_next rfl ?_
          | refine MI.glc_end rfl ?_
          | refine MI.glf_next rfl ?_
          | refine MI.glf_end rfl ?_
          | refine ⟨Nat.le_of_ble_eq_true rfl, ?_⟩)
        refine ⟨_, _, rfl, ?_, d4.mono (by omega), f3.trans f4⟩
        have hr : r.natAbs < 2 ^ 30 := by omega
        exact sz_mono (sz_plus (sz_mul (b := 30) hf (by decide)) hr) (by omega)
      · rintro env st3 ⟨found, z, rfl, hf, d3, f3⟩
        rw [rngL_len] at hf d3
        repeat (first
          | with_reducible (first | refine MI.gss_cons ?_ | refine MI.gss_nil ?_ | refine MI.gn_next ?_ | refine MI.gn_ret ?_ | refine MI.gn_brk ?_ | refine MI.gn_cont ?_ | refine MI.gk_next ?_ | refine MI.gk_cont ?_ | refine MI.gk_brk ?_ | refine MI.gk_ret ?_ | refine MI.gf_ret ?_ | refine MI.gf_next ?_ | refine MI.gs_asg ?_ | refine MI.gs_asgT ?_ | refine MI.gs_par ?_ | refine MI.gs_put ?_ | refine MI.gs_if ?_ | refine MI.gs_ret ?_ | refine MI.gs_retN ?_ | refine MI.gs_expr ?_ | refine MI.gs_pass ?_ | refine MI.gs_brk ?_ | refine MI.gs_cont ?_ | refine MI.gs_while ?_ | refine MI.gs_for ?_ | refine MI.ge_of ?_ | refine MI.ga_val ?_ | refine MI.ga_new ?_ | refine MI.gl_nil ?_ | refine MI.gl_cons ?_ | refine MI.gr_nil ?_ | refine MI.gr_cons ?_ | refine MI.gi_rng ?_ | refine MI.gi_of ?_ | refine MI.gv_name ?_ | refine MI.gv_int ?_ | refine MI.gv_bl ?_ | refine MI.gv_str ?_ | refine MI.gv_non ?_ | refine MI.gv_ty ?_ | refine MI.gv_glob ?_ | refine MI.gv_bin ?_ | refine MI.gv_neg ?_ | refine MI.gv_not ?_ | refine MI.gv_and ?_ | refine MI.gv_or ?_ | refine MI.gand_one ?_ | refine MI.gand_cons ?_ | refine MI.gor_one ?_ | refine MI.gor_cons ?_ | refine MI.gv_cmp ?_ | refine MI.gv_chain ?_ | refine MI.gv_ife ?_ | refine MI.gv_idx ?_ | refine MI.gv_slice ?_ | refine MI.go_none ?_ | refine MI.go_some ?_ | refine MI.gv_rev ?_ | refine MI.gv_call ?_ | refine MI.gv_callK ?_ | refine MI.gv_bi ?_ | refine MI.gv_comp ?_ | refine MI.gv_pop ?_ | refine MI.gv_append ?_ | refine MI.gv_dct ?_ | refine MI.gt_not ?_ | refine MI.gt_and ?_ | refine MI.gt_or ?_ | refine MI.gandt_one ?_ | refine MI.gandt_cons ?_ | refine MI.gort_one ?_ | refine MI.gort_cons ?_ | refine MI.gt_val ?_ | refine MI.gifs_nil ?_ | refine MI.gifs_cons ?_ | refine MI.gif_true ?_ | refine MI.gif_false ?_ | refine MI.gif_not ?_ | refine MI.gb_add ?_ | refine MI.gb_sub ?_ | refine MI.gm_lt ?_ | refine MI.gm_le ?_ | refine MI.gm_gt ?_ | refine MI.gm_ge ?_ | refine MI.gm_eq ?_ | refine MI.gm_ne ?_ | refine MI.gm_seq ?_ | refine MI.gtr_bl ?_ | refine MI.gtr_int ?_ | refine MI.gbi_int_int ?_ | refine MI.gbi_int_bool ?_ | refine MI.gbi_int_tup ?_ | refine MI.gbi_int_list ?_ | refine MI.gbi_int_dict ?_ | refine MI.gbi_tup_tup ?_ | refine MI.gbi_bl_tup ?_ | refine MI.gbi_bl_list ?_ | refine MI.gbi_bl_dict ?_ | refine MI.gbi_bl_bool ?_ | refine MI.gbi_len_tup ?_ | refine MI.gbi_int1 ?_ | refine MI.gbi_max ?_)
          | refine gb_mul (mulOk_of (a := 8) (b := 8) (by decide) (by omega) (by decide)) ?_
          | with_reducible refine MI.gv_tup ?_
          | with_reducible refine MI.gv_lst ?_
          | with_reducible refine MI.gb_mod (by first | decide | omega) ?_
          | with_reducible refine MI.gb_div (by first | decide | assumption) ?_
          | with_reducible refine MI.gb_mul (by first | decide | assumption) ?_
          | with_reducible refine MI.gb_pow (by decide) ?_
          | with_reducible refine MI.gif_dec_t (by first | assumption | omega | decide) ?_
          | with_reducible refine MI.gif_dec_f (by first | assumption | omega | decide) ?_
          | refine MI.gif_t rfl ?_
          | refine MI.gif_f rfl ?_
          | with_reducible refine MI.grg_of (by omega) (by omega) ?_
          | refine MI.gx_of rfl ?_
          | refine MI.gbi_of rfl ?_
          | refine ⟨_, rfl, ?_⟩
          | refine ⟨_, _, rfl, rfl, ?_⟩
          | refine MI.glc_next rfl ?_
          | refine MI.glc_end rfl ?_
          | refine MI.glf_next rfl ?_
          | refine MI.glf_end rfl ?_
          | refine ⟨Nat.le_of_ble_eq_true rfl, ?_⟩)
        refine glf_all (fun i env st4 => ∃ found z, env = [some (.ref D), some (.int most), some (.int way), some (.int (1 + fg)), some (.int found), z, none, none] ∧ found.natAbs < 2 ^ (700) ∧ st4 = st3) ⟨found, z, rfl, sz_mono hf (by omega), rfl⟩ ?_ ?_
        · rintro i x env st4 hi ⟨found, z, rfl, hf, rfl⟩
          refine ⟨_, rfl, ?_⟩
          repeat (first
            | with_reducible (first | refine MI.gss_cons ?_ | refine MI.gss_nil ?_ | refine MI.gn_next ?_ | refine MI.gn_ret ?_ | refine MI.gn_brk ?_ | refine MI.gn_cont ?_ | refine MI.gk_next ?_ | refine MI.gk_cont ?_ | refine MI.gk_brk ?_ | refine MI.gk_ret ?_ | refine MI.gf_ret ?_ | refine MI.gf_next ?_ | refine MI.gs_asg ?_ | refine MI.gs_asgT ?_ | refine MI.gs_par ?_ | refine MI.gs_put ?_ | refine MI.gs_if ?_ | refine MI.gs_ret ?_ | refine MI.gs_retN ?_ | refine MI.gs_expr ?_ | refine MI.gs_pass ?_ | refine MI.gs_brk ?_ | refine MI.gs_cont ?_ | refine MI.gs_while ?_ | refine MI.gs_for ?_ | refine MI.ge_of ?_ | refine MI.ga_val ?_ | refine MI.ga_new ?_ | refine MI.gl_nil ?_ | refine MI.gl_cons ?_ | refine MI.gr_nil ?_ | refine MI.gr_cons ?_ | refine MI.gi_rng ?_ | refine MI.gi_of ?_ | refine MI.gv_name ?_ | refine MI.gv_int ?_ | refine MI.gv_bl ?_ | refine MI.gv_str ?_ | refine MI.gv_non ?_ | refine MI.gv_ty ?_ | refine MI.gv_glob ?_ | refine MI.gv_bin ?_ | refine MI.gv_neg ?_ | refine MI.gv_not ?_ | refine MI.gv_and ?_ | refine MI.gv_or ?_ | refine MI.gand_one ?_ | refine MI.gand_cons ?_ | refine MI.gor_one ?_ | refine MI.gor_cons ?_ | refine MI.gv_cmp ?_ | refine MI.gv_chain ?_ | refine MI.gv_ife ?_ | refine MI.gv_idx ?_ | refine MI.gv_slice ?_ | refine MI.go_none ?_ | refine MI.go_some ?_ | refine MI.gv_rev ?_ | refine MI.gv_call ?_ | refine MI.gv_callK ?_ | refine MI.gv_bi ?_ | refine MI.gv_comp ?_ | refine MI.gv_pop ?_ | refine MI.gv_append ?_ | refine MI.gv_dct ?_ | refine MI.gt_not ?_ | refine MI.gt_and ?_ | refine MI.gt_or ?_ | refine MI.gandt_one ?_ | refine MI.gandt_cons ?_ | refine MI.gort_one ?_ | refine MI.gort_cons ?_ | refine MI.gt_val ?_ | refine MI.gifs_nil ?_ | refine MI.gifs_cons ?_ | refine MI.gif_true ?_ | refine MI.gif_false ?_ | refine MI.gif_not ?_ | refine MI.gb_add ?_ | refine MI.gb_sub ?_ | refine MI.gm_lt ?_ | refine MI.gm_le ?_ | refine MI.gm_gt ?_ | refine MI.gm_ge ?_ | refine MI.gm_eq ?_ | refine MI.gm_ne ?_ | refine MI.gm_seq ?_ | refine MI.gtr_bl ?_ | refine MI.gtr_int ?_ | refine MI.gbi_int_int ?_ | refine MI.gbi_int_bool ?_ | refine MI.gbi_int_tup ?_ | refine MI.gbi_int_list ?_ | refine MI.gbi_int_dict ?_ | refine MI.gbi_tup_tup ?_ | refine MI.gbi_bl_tup ?_ | refine MI.gbi_bl_list ?_ | refine MI.gbi_bl_dict ?_ | refine MI.gbi_bl_bool ?_ | refine MI.gbi_len_tup ?_ | refine MI.gbi_int1 ?_ | refine MI.gbi_max ?_)
            | with_reducible refine MI.gv_tup ?_
            | with_reducible refine MI.gv_lst ?_
            | with_reducible refine MI.gb_mod (by first | decide | omega) ?_
            | with_reducible refine MI.gb_div (by first | decide | assumption) ?_
            | with_reducible refine MI.gb_mul (by first | decide | assumption) ?_
            | with_reducible refine MI.gb_pow (by decide) ?_
            | with_reducible refine MI.gif_dec_t (by first | assumption | omega | decide) ?_
            | with_reducible refine MI.gif_dec_f (by first | assumption | omega | decide) ?_
            | refine MI.gif_t rfl ?_
            | refine MI.gif_f rfl ?_
            | with_reducible refine MI.grg_of (by omega) (by omega) ?_
            | refine MI.gx_of rfl ?_
            | refine MI.gbi_of rfl ?_
            | refine ⟨_, rfl, ?_⟩
            | refine ⟨_, _, rfl, rfl, ?_⟩
            | refine MI.glc_next rfl ?_
            | refine MI.glc_end rfl ?_
            | refine MI.glf_next rfl ?_
            | refine MI.glf_end rfl ?_
            | refine ⟨Nat.le_of_ble_eq_true rfl, ?_⟩)
          exact ⟨_, _, rfl, Nat.lt_of_le_of_lt (sz_div hf (by decide)) hf, rfl⟩
        · rintro env st4 ⟨found, z, rfl, hf, rfl⟩
          refine gn_next (gss_nil (gn_next ?_))
          exact fin _ _ _ _ _ _ (sz_mono hf (by decide)) d3 (by omega) f3
    · repeat (first
        | with_reducible (first | refine MI.gss_cons ?_ | refine MI.gss_nil ?_ | refine MI.gn_next ?_ | refine MI.gn_ret ?_ | refine MI.gn_brk ?_ | refine MI.gn_cont ?_ | refine MI.gk_next ?_ | refine MI.gk_cont ?_ | refine MI.gk_brk ?_ | refine MI.gk_ret ?_ | refine MI.gf_ret ?_ | refine MI.gf_next ?_ | refine MI.gs_asg ?_ | refine MI.gs_asgT ?_ | refine MI.gs_par ?_ | refine MI.gs_put ?_ | refine MI.gs_if ?_ | refine MI.gs_ret ?_ | refine MI.gs_retN ?_ | refine MI.gs_expr ?_ | refine MI.gs_pass ?_ | refine MI.gs_brk ?_ | refine MI.gs_cont ?_ | refine MI.gs_while ?_ | refine MI.gs_for ?_ | refine MI.ge_of ?_ | refine MI.ga_val ?_ | refine MI.ga_new ?_ | refine MI.gl_nil ?_ | refine MI.gl_cons ?_ | refine MI.gr_nil ?_ | refine MI.gr_cons ?_ | refine MI.gi_rng ?_ | refine MI.gi_of ?_ | refine MI.gv_name ?_ | refine MI.gv_int ?_ | refine MI.gv_bl ?_ | refine MI.gv_str ?_ | refine MI.gv_non ?_ | refine MI.gv_ty ?_ | refine MI.gv_glob ?_ | refine MI.gv_bin ?_ | refine MI.gv_neg ?_ | refine MI.gv_not ?_ | refine MI.gv_and ?_ | refine MI.gv_or ?_ | refine MI.gand_one ?_ | refine MI.gand_cons ?_ | refine MI.gor_one ?_ | refine MI.gor_cons ?_ | refine MI.gv_cmp ?_ | refine MI.gv_chain ?_ | refine MI.gv_ife ?_ | refine MI.gv_idx ?_ | refine MI.gv_slice ?_ | refine MI.go_none ?_ | refine MI.go_some ?_ | refine MI.gv_rev ?_ | refine MI.gv_call ?_ | refine MI.gv_callK ?_ | refine MI.gv_bi ?_ | refine MI.gv_comp ?_ | refine MI.gv_pop ?_ | refine MI.gv_append ?_ | refine MI.gv_dct ?_ | refine MI.gt_not ?_ | refine MI.gt_and ?_ | refine MI.gt_or ?_ | refine MI.gandt_one ?_ | refine MI.gandt_cons ?_ | refine MI.gort_one ?_ | refine MI.gort_cons ?_ | refine MI.gt_val ?_ | refine MI.gifs_nil ?_ | refine MI.gifs_cons ?_ | refine MI.gif_true ?_ | refine MI.gif_false ?_ | refine MI.gif_not ?_ | refine MI.gb_add ?_ | refine MI.gb_sub ?_ | refine MI.gm_lt ?_ | refine MI.gm_le ?_ | refine MI.gm_gt ?_ | refine MI.gm_ge ?_ | refine MI.gm_eq ?_ | refine MI.gm_ne ?_ | refine MI.gm_seq ?_ | refine MI.gtr_bl ?_ | refine MI.gtr_int ?_ | refine MI.gbi_int_int ?_ | refine MI.gbi_int_bool ?_ | refine MI.gbi_int_tup ?_ | refine MI.gbi_int_list ?_ | refine MI.gbi_int_dict ?_ | refine MI.gbi_tup_tup ?_ | refine MI.gbi_bl_tup ?_ | refine MI.gbi_bl_list ?_ | refine MI.gbi_bl_dict ?_ | refine MI.gbi_bl_bool ?_ | refine MI.gbi_len_tup ?_ | refine MI.gbi_int1 ?_ | refine MI.gbi_max ?_)
        | refine gb_mul (mulOk_of (a := 8) (b := 8) (by omega) (by decide) (by decide)) ?_
        | with_reducible refine MI.gv_tup ?_
        | with_reducible refine MI.gv_lst ?_
        | with_reducible refine MI.gb_mod (by first | decide | omega) ?_
        | with_reducible refine MI.gb_div (by first | decide | assumption) ?_
        | with_reducible refine MI.gb_mul (by first | decide | assumption) ?_
        | with_reducible refine MI.gb_pow (by decide) ?_
        | with_reducible refine MI.gif_dec_t (by first | assumption | omega | decide) ?_
        | with_reducible refine MI.gif_dec_f (by first | assumption | omega | decide) ?_
        | refine MI.gif_t rfl ?_
        | refine MI.gif_f rfl ?_
        | with_reducible refine MI.grg_of (by omega) (by omega) ?_
        | refine MI.gx_of rfl ?_
        | refine MI.gbi_of rfl ?_
        | refine ⟨_, rfl, ?_⟩
        | refine ⟨_, _, rfl, rfl, ?_⟩
        | refine MI.glc_next rfl ?_
        | refine MI.glc_end rfl ?_
        | refine MI.glf_next rfl ?_
        | refine MI.glf_end rfl ?_
        | refine ⟨Nat.le_of_ble_eq_true rfl, ?_⟩)
      refine s_pickT d2 (by omega) (by simp) (by simp) fun v hv st3 d3 f3 => ?_
      have hv2 : ∃ a b : Int, v = .tup [.int a, .int b] ∧ a.natAbs < 2 ^ 4 ∧ 0 ≤ b ∧ b ≤ 447 := by
        rcases mem2 hv with rfl | rfl
        · exact ⟨2, _, rfl, by decide, by omega, by omega⟩
        · exact ⟨10, _, rfl, by decide, by omega, by omega⟩
      obtain ⟨a, b, rfl, ha, b0, b1⟩ := hv2
      repeat (first
        | with_reducible (first | refine MI.gss_cons ?_ | refine MI.gss_nil ?_ | refine MI.gn_next ?_ | refine MI.gn_ret ?_ | refine MI.gn_brk ?_ | refine MI.gn_cont ?_ | refine MI.gk_next ?_ | refine MI.gk_cont ?_ | refine MI.gk_brk ?_ | refine MI.gk_ret ?_ | refine MI.gf_ret ?_ | refine MI.gf_next ?_ | refine MI.gs_asg ?_ | refine MI.gs_asgT ?_ | refine MI.gs_par ?_ | refine MI.gs_put ?_ | refine MI.gs_if ?_ | refine MI.gs_ret ?_ | refine MI.gs_retN ?_ | refine MI.gs_expr ?_ | refine MI.gs_pass ?_ | refine MI.gs_brk ?_ | refine MI.gs_cont ?_ | refine MI.gs_while ?_ | refine MI.gs_for ?_ | refine MI.ge_of ?_ | refine MI.ga_val ?_ | refine MI.ga_new ?_ | refine MI.gl_nil ?_ | refine MI.gl_cons ?_ | refine MI.gr_nil ?_ | refine MI.gr_cons ?_ | refine MI.gi_rng ?_ | refine MI.gi_of ?_ | refine MI.gv_name ?_ | refine MI.gv_int ?_ | refine MI.gv_bl ?_ | refine MI.gv_str ?_ | refine MI.gv_non ?_ | refine MI.gv_ty ?_ | refine MI.gv_glob ?_ | refine MI.gv_bin ?_ | refine MI.gv_neg ?_ | refine MI.gv_not ?_ | refine MI.gv_and ?_ | refine MI.gv_or ?_ | refine MI.gand_one ?_ | refine MI.gand_cons ?_ | refine MI.gor_one ?_ | refine MI.gor_cons ?_ | refine MI.gv_cmp ?_ | refine MI.gv_chain ?_ | refine MI.gv_ife ?_ | refine MI.gv_idx ?_ | refine MI.gv_slice ?_ | refine MI.go_none ?_ | refine MI.go_some ?_ | refine MI.gv_rev ?_ | refine MI.gv_call ?_ | refine MI.gv_callK ?_ | refine MI.gv_bi ?_ | refine MI.gv_comp ?_ | refine MI.gv_pop ?_ | refine MI.gv_append ?_ | refine MI.gv_dct ?_ | refine MI.gt_not ?_ | refine MI.gt_and ?_ | refine MI.gt_or ?_ | refine MI.gandt_one ?_ | refine MI.gandt_cons ?_ | refine MI.gort_one ?_ | refine MI.gort_cons ?_ | refine MI.gt_val ?_ | refine MI.gifs_nil ?_ | refine MI.gifs_cons ?_ | refine MI.gif_true ?_ | refine MI.gif_false ?_ | refine MI.gif_not ?_ | refine MI.gb_add ?_ | refine MI.gb_sub ?_ | refine MI.gm_lt ?_ | refine MI.gm_le ?_ | refine MI.gm_gt ?_ | refine MI.gm_ge ?_ | refine MI.gm_eq ?_ | refine MI.gm_ne ?_ | refine MI.gm_seq ?_ | refine MI.gtr_bl ?_ | refine MI.gtr_int ?_ | refine MI.gbi_int_int ?_ | refine MI.gbi_int_bool ?_ | refine MI.gbi_int_tup ?_ | refine MI.gbi_int_list ?_ | refine MI.gbi_int_dict ?_ | refine MI.gbi_tup_tup ?_ | refine MI.gbi_bl_tup ?_ | refine MI.gbi_bl_list ?_ | refine MI.gbi_bl_dict ?_ | refine MI.gbi_bl_bool ?_ | refine MI.gbi_len_tup ?_ | refine MI.gbi_int1 ?_ | refine MI.gbi_max ?_)
        | with_reducible refine MI.gv_tup ?_
        | with_reducible refine MI.gv_lst ?_
        | with_reducible refine MI.gb_mod (by first | decide | omega) ?_
        | with_reducible refine MI.gb_div (by first | decide | assumption) ?_
        | with_reducible refine MI.gb_mul (by first | decide | assumption) ?_
        | with_reducible refine MI.gb_pow (by decide) ?_
        | with_reducible refine MI.gif_dec_t (by first | assumption | omega | decide) ?_
        | with_reducible refine MI.gif_dec_f (by first | assumption | omega | decide) ?_
        | refine MI.gif_t rfl ?_
        | refine MI.gif_f rfl ?_
        | with_reducible refine MI.grg_of (by omega) (by omega) ?_
        | refine MI.gx_of rfl ?_
        | refine MI.gbi_of rfl ?_
        | refine ⟨_, rfl, ?_⟩
        | refine ⟨_, _, rfl, rfl, ?_⟩
        | refine MI.glc_next rfl ?_
        | refine MI.glc_end rfl ?_
        | refine MI.glf_next rfl ?_
        | refine MI.glf_end rfl ?_
        | refine ⟨Nat.le_of_ble_eq_true rfl, ?_⟩)
      refine glf_all (fun i env st4 => ∃ pw z, env = [some (.ref D), some (.int most), some (.int way), some (.int (1 + fg)), some (.int (10 ^ (0 : Int).toNat)), z, some (.tup [.int a, .int b]), some (.int pw)] ∧ pw.natAbs < 2 ^ (4 * i + 1) ∧ st4 = st3) ⟨1, none, rfl, by decide, rfl⟩ ?_ ?_
      · rintro i x env st4 hi ⟨pw, z, rfl, hf, rfl⟩
        have hlt := (List.getElem?_eq_some_iff.mp hi).1
        rw [rngL_len] at hlt
        refine ⟨_, rfl, ?_⟩
        repeat (first
          | with_reducible (first | refine MI.gss_cons ?_ | refine MI.gss_nil ?_ | refine MI.gn_next ?_ | refine MI.gn_ret ?_ | refine MI.gn_brk ?_ | refine MI.gn_cont ?_ | refine MI.gk_next ?_ | refine MI.gk_cont ?_ | refine MI.gk_brk ?_ | refine MI.gk_ret ?_ | refine MI.gf_ret ?_ | refine MI.gf_next ?_ | refine MI.gs_asg ?_ | refine MI.gs_asgT ?_ | refine MI.gs_par ?_ | refine MI.gs_put ?_ | refine MI.gs_if ?_ | refine MI.gs_ret ?_ | refine MI.gs_retN ?_ | refine MI.gs_expr ?_ | refine MI.gs_pass ?_ | refine MI.gs_brk ?_ | refine MI.gs_cont ?_ | refine MI.gs_while ?_ | refine MI.gs_for ?_ | refine MI.ge_of ?_ | refine MI.ga_val ?_ | refine MI.ga_new ?_ | refine MI.gl_nil ?_ | refine MI.gl_cons ?_ | refine MI.gr_nil ?_ | refine MI.gr_cons ?_ | refine MI.gi_rng ?_ | refine MI.gi_of ?_ | refine MI.gv_name ?_ | refine MI.gv_int ?_ | refine MI.gv_bl ?_ | refine MI.gv_str ?_ | refine MI.gv_non ?_ | refine MI.gv_ty ?_ | refine MI.gv_glob ?_ | refine MI.gv_bin ?_ | refine MI.gv_neg ?_ | refine MI.gv_not ?_ | refine MI.gv_and ?_ | refine MI.gv_or ?_ | refine MI.gand_one ?_ | refine MI.gand_cons ?_ | refine MI.gor_one ?_ | refine MI.gor_cons ?_ | refine MI.gv_cmp ?_ | refine MI.gv_chain ?_ | refine MI.gv_ife ?_ | refine MI.gv_idx ?_ | refine MI.gv_slice ?_ | refine MI.go_none ?_ | refine MI.go_some ?_ | refine MI.gv_rev ?_ | refine MI.gv_call ?_ | refine MI.gv_callK ?_ | refine MI.gv_bi ?_ | refine MI.gv_comp ?_ | refine MI.gv_pop ?_ | refine MI.gv_append ?_ | refine MI.gv_dct ?_ | refine MI.gt_not ?_ | refine MI.gt_and ?_ | refine MI.gt_or ?_ | refine MI.gandt_one ?_ | refine MI.gandt_cons ?_ | refine MI.gort_one ?_ | refine MI.gort_cons ?_ | refine MI.gt_val ?_ | refine MI.gifs_nil ?_ | refine MI.gifs_cons ?_ | refine MI.gif_true ?_ | refine MI.gif_false ?_ | refine MI.gif_not ?_ | refine MI.gb_add ?_ | refine MI.gb_sub ?_ | refine MI.gm_lt ?_ | refine MI.gm_le ?_ | refine MI.gm_gt ?_ | refine MI.gm_ge ?_ | refine MI.gm_eq ?_ | refine MI.gm_ne ?_ | refine MI.gm_seq ?_ | refine MI.gtr_bl ?_ | refine MI.gtr_int ?_ | refine MI.gbi_int_int ?_ | refine MI.gbi_int_bool ?_ | refine MI.gbi_int_tup ?_ | refine MI.gbi_int_list ?_ | refine MI.gbi_int_dict ?_ | refine MI.gbi_tup_tup ?_ | refine MI.gbi_bl_tup ?_ | refine MI.gbi_bl_list ?_ | refine MI.gbi_bl_dict ?_ | refine MI.gbi_bl_bool ?_ | refine MI.gbi_len_tup ?_ | refine MI.gbi_int1 ?_ | refine MI.gbi_max ?_)
          | refine gb_mul (mulOk_of hf ha (by omega)) ?_
          | with_reducible refine MI.gv_tup ?_
          | with_reducible refine MI.gv_lst ?_
          | with_reducible refine MI.gb_mod (by first | decide | omega) ?_
          | with_reducible refine MI.gb_div (by first | decide | assumption) ?_
          | with_reducible refine MI.gb_mul (by first | decide | assumption) ?_
          | with_reducible refine MI.gb_pow (by decide) ?_
          | with_reducible refine MI.gif_dec_t (by first | assumption | omega | decide) ?_
          | with_reducible refine MI.gif_dec_f (by first | assumption | omega | decide) ?_
          | refine MI.gif_t rfl ?_
          | refine MI.gif_f rfl ?_
          | with_reducible refine MI.grg_of (by omega) (by omega) ?_
          | refine MI.gx_of rfl ?_
          | refine MI.gbi_of rfl ?_
          | refine ⟨_, rfl, ?_⟩
          | refine ⟨_, _, rfl, rfl, ?_⟩
          | refine MI.glc_next rfl ?_
          | refine MI.glc_end rfl ?_
          | refine MI.glf_next rfl ?_
          | refine MI.glf_end rfl ?_
          | refine ⟨Nat.le_of_ble_eq_true rfl, ?_⟩)
        exact ⟨_, _, rfl, sz_mono (sz_mul hf ha) (by omega), rfl⟩
      · rintro env st4 ⟨pw, z, rfl, hf, rfl⟩
        rw [rngL_len] at hf
        repeat (first
          | with_reducible (first | refine MI.gss_cons ?_ | refine MI.gss_nil ?_ | refine MI.gn_next ?_ | refine MI.gn_ret ?_ | refine MI.gn_brk ?_ | refine MI.gn_cont ?_ | refine MI.gk_next ?_ | refine MI.gk_cont ?_ | refine MI.gk_brk ?_ | refine MI.gk_ret ?_ | refine MI.gf_ret ?_ | refine MI.gf_next ?_ | refine MI.gs_asg ?_ | refine MI.gs_asgT ?_ | refine MI.gs_par ?_ | refine MI.gs_put ?_ | refine MI.gs_if ?_ | refine MI.gs_ret ?_ | refine MI.gs_retN ?_ | refine MI.gs_expr ?_ | refine MI.gs_pass ?_ | refine MI.gs_brk ?_ | refine MI.gs_cont ?_ | refine MI.gs_while ?_ | refine MI.gs_for ?_ | refine MI.ge_of ?_ | refine MI.ga_val ?_ | refine MI.ga_new ?_ | refine MI.gl_nil ?_ | refine MI.gl_cons ?_ | refine MI.gr_nil ?_ | refine MI.gr_cons ?_ | refine MI.gi_rng ?_ | refine MI.gi_of ?_ | refine MI.gv_name ?_ | refine MI.gv_int ?_ | refine MI.gv_bl ?_ | refine MI.gv_str ?_ | refine MI.gv_non ?_ | refine MI.gv_ty ?_ | refine MI.gv_glob ?_ | refine MI.gv_bin ?_ | refine MI.gv_neg ?_ | refine MI.gv_not ?_ | refine MI.gv_and ?_ | refine MI.gv_or ?_ | refine MI.gand_one ?_ | refine MI.gand_cons ?_ | refine MI.gor_one ?_ | refine MI.gor_cons ?_ | refine MI.gv_cmp ?_ | refine MI.gv_chain ?_ | refine MI.gv_ife ?_ | refine MI.gv_idx ?_ | refine MI.gv_slice ?_ | refine MI.go_none ?_ | refine MI.go_some ?_ | refine MI.gv_rev ?_ | refine MI.gv_call ?_ | refine MI.gv_callK ?_ | refine MI.gv_bi ?_ | refine MI.gv_comp ?_ | refine MI.gv_pop ?_ | refine MI.gv_append ?_ | refine MI.gv_dct ?_ | refine MI.gt_not ?_ | refine MI.gt_and ?_ | refine MI.gt_or ?_ | refine MI.gandt_one ?_ | refine MI.gandt_cons ?_ | refine MI.gort_one ?_ | refine MI.gort_cons ?_ | refine MI.gt_val ?_ | refine MI.gifs_nil ?_ | refine MI.gifs_cons ?_ | refine MI.gif_true ?_ | refine MI.gif_false ?_ | refine MI.gif_not ?_ | refine MI.gb_add ?_ | refine MI.gb_sub ?_ | refine MI.gm_lt ?_ | refine MI.gm_le ?_ | refine MI.gm_gt ?_ | refine MI.gm_ge ?_ | refine MI.gm_eq ?_ | refine MI.gm_ne ?_ | refine MI.gm_seq ?_ | refine MI.gtr_bl ?_ | refine MI.gtr_int ?_ | refine MI.gbi_int_int ?_ | refine MI.gbi_int_bool ?_ | refine MI.gbi_int_tup ?_ | refine MI.gbi_int_list ?_ | refine MI.gbi_int_dict ?_ | refine MI.gbi_tup_tup ?_ | refine MI.gbi_bl_tup ?_ | refine MI.gbi_bl_list ?_ | refine MI.gbi_bl_dict ?_ | refine MI.gbi_bl_bool ?_ | refine MI.gbi_len_tup ?_ | refine MI.gbi_int1 ?_ | refine MI.gbi_max ?_)
          | with_reducible refine MI.gv_tup ?_
          | with_reducible refine MI.gv_lst ?_
          | with_reducible refine MI.gb_mod (by first | decide | omega) ?_
          | with_reducible refine MI.gb_div (by first | decide | assumption) ?_
          | with_reducible refine MI.gb_mul (by first | decide | assumption) ?_
          | with_reducible refine MI.gb_pow (by decide) ?_
          | with_reducible refine MI.gif_dec_t (by first | assumption | omega | decide) ?_
          | with_reducible refine MI.gif_dec_f (by first | assumption | omega | decide) ?_
          | refine MI.gif_t rfl ?_
          | refine MI.gif_f rfl ?_
          | with_reducible refine MI.grg_of (by omega) (by omega) ?_
          | refine MI.gx_of rfl ?_
          | refine MI.gbi_of rfl ?_
          | refine ⟨_, rfl, ?_⟩
          | refine ⟨_, _, rfl, rfl, ?_⟩
          | refine MI.glc_next rfl ?_
          | refine MI.glc_end rfl ?_
          | refine MI.glf_next rfl ?_
          | refine MI.glf_end rfl ?_
          | refine ⟨Nat.le_of_ble_eq_true rfl, ?_⟩)
        refine s_draw d3 (by omega) (by omega) (by omega) fun r st4 r0 r1 d4 f4 => ?_
        refine gb_sub (ga_val (gn_next (gss_nil (gn_next ?_))))
        have hr : r.natAbs < 2 ^ 2 := by omega
        exact fin _ _ _ _ _ _ (sz_mono (sz_sub (sz_mono hf (by omega : 4 * b.toNat + 1 ≤ 1900)) (sz_mono hr (by decide))) (by decide)) d4 (by omega) (f3.trans f4)
end
end K01
end
section
set_option Elab.async false
set_option linter.all false
set_option maxRecDepth 100000
set_option maxHeartbeats 4000000
namespace K01
open PySem MI
section
variable {d : Nat} {st : Store} {Q : PV → Store → Prop}
theorem s_isint {i : Int} (h : Q (.bl true) st) : GC G (d + 1) 0 [.int i] st Q := by
  refine c_is_int ?_
  repeat (first
    | with_reducible (first | refine MI.gss_cons ?_ | refine MI.gss_nil ?_ | refine MI.gn_next ?_ | refine MI.gn_ret ?_ | refine MI.gn_brk ?_ | refine MI.gn_cont ?_ | refine MI.gk_next ?_ | refine MI.gk_cont ?_ | refine MI.gk_brk ?_ | refine MI.gk_ret ?_ | refine MI.gf_ret ?_ | refine MI.gf_next ?_ | refine MI.gs_asg ?_ | refine MI.gs_asgT ?_ | refine MI.gs_par ?_ | refine MI.gs_put ?_ | refine MI.gs_if ?_ | refine MI.gs_ret ?_ | refine MI.gs_retN ?_ | refine MI.gs_expr ?_ | refine MI.gs_pass ?_ | refine MI.gs_brk ?_ | refine MI.gs_cont ?_ | refine MI.gs_while ?_ | refine MI.gs_for ?_ | refine MI.ge_of ?_ | refine MI.ga_val ?_ | refine MI.ga_new ?_ | refine MI.gl_nil ?_ | refine MI.gl_cons ?_ | refine MI.gr_nil ?_ | refine MI.gr_cons ?_ | refine MI.gi_rng ?_ | refine MI.gi_of ?_ | refine MI.gv_name ?_ | refine MI.gv_int ?_ | refine MI.gv_bl ?_ | refine MI.gv_str ?_ | refine MI.gv_non ?_ | refine MI.gv_ty ?_ | refine MI.gv_glob ?_ | refine MI.gv_bin ?_ | refine MI.gv_neg ?_ | refine MI.gv_not ?_ | refine MI.gv_and ?_ | refine MI.gv_or ?_ | refine MI.gand_one ?_ | refine MI.gand_cons ?_ | refine MI.gor_one ?_ | refine MI.gor_cons ?_ | refine MI.gv_cmp ?_ | refine MI.gv_chain ?_ | refine MI.gv_ife ?_ | refine MI.gv_idx ?_ | refine MI.gv_slice ?_ | refine MI.go_none ?_ | refine MI.go_some ?_ | refine MI.gv_rev ?_ | refine MI.gv_call ?_ | refine MI.gv_callK ?_ | refine MI.gv_bi ?_ | refine MI.gv_comp ?_ | refine MI.gv_pop ?_ | refine MI.gv_append ?_ | refine MI.gv_dct ?_ | refine MI.gt_not ?_ | refine MI.gt_and ?_ | refine MI.gt_or ?_ | refine MI.gandt_one ?_ | refine MI.gandt_cons ?_ | refine MI.gort_one ?_ | refine MI.gort_cons ?_ | refine MI.gt_val ?_ | refine MI.gifs_nil ?_ | refine MI.gifs_cons ?_ | refine MI.gif_true ?_ | refine MI.gif_false ?_ | refine MI.gif_not ?_ | refine MI.gb_add ?_ | refine MI.gb_sub ?_ | refine MI.gm_lt ?_ | refine MI.gm_le ?_ | refine MI.gm_gt ?_ | refine MI.gm_ge ?_ | refine MI.gm_eq ?_ | refine MI.gm_ne ?_ | refine MI.gm_seq ?_ | refine MI.gtr_bl ?_ | refine MI.gtr_int ?_ | refine MI.gbi_int_int ?_ | refine MI.gbi_int_bool ?_ | refine MI.gbi_int_tup ?_ | refine MI.gbi_int_list ?_ | refine MI.gbi_int_dict ?_ | refine MI.gbi_tup_tup ?_ | refine MI.gbi_bl_tup ?_ | refine MI.gbi_bl_list ?_ | refine MI.gbi_bl_dict ?_ | refine MI.gbi_bl_bool ?_ | refine MI.gbi_len_tup ?_ | refine MI.gbi_int1 ?_ | refine MI.gbi_max ?_)
    | with_reducible refine MI.gv_tup ?_
    | with_reducible refine MI.gv_lst ?_
    | with_reducible refine MI.gb_mod (by first | decide | omega) ?_
    | with_reducible refine MI.gb_div (by first | decide | assumption) ?_
    | with_reducible refine MI.gb_mul (by first | decide | assumption) ?_
    | with_reducible refine MI.gb_pow (by decide) ?_
    | with_reducible refine MI.gif_dec_t (by first | assumption | omega | decide) ?_
    | with_reducible refine MI.gif_dec_f (by first | assumption | omega | decide) ?_
    | refine MI.gif_t rfl ?_
    | refine MI.gif_f rfl ?_
    | with_reducible refine MI.grg_of (by omega) (by omega) ?_
    | refine MI.gx_of rfl ?_
    | refine MI.gbi_of rfl ?_
    | refine ⟨_, rfl, ?_⟩
    | refine ⟨_, _, rfl, rfl, ?_⟩
    | refine MI.glc_next rfl ?_
    | refine MI.glc_end rfl ?_
    | refine MI.glf_next rfl ?_
    | refine MI.glf_end rfl ?_
    | refine ⟨Nat.le_of_ble_eq_true rfl, ?_⟩)
  exact h
theorem s_isfrom {i j : Int} (hi : j ≤ i) (h : Q (.bl true) st) : GC G (d + 2) 1 [.int i, .int j] st Q := by
  refine c_is_from ?_
  repeat (first
    | with_reducible (first | refine MI.gss_cons ?_ | refine MI.gss_nil ?_ | refine MI.gn_next ?_ | refine MI.gn_ret ?_ | refine MI.gn_brk ?_ | refine MI.gn_cont ?_ | refine MI.gk_next ?_ | refine MI.gk_cont ?_ | refine MI.gk_brk ?_ | refine MI.gk_ret ?_ | refine MI.gf_ret ?_ | refine MI.gf_next ?_ | refine MI.gs_asg ?_ | refine MI.gs_asgT ?_ | refine MI.gs_par ?_ | refine MI.gs_put ?_ | refine MI.gs_if ?_ | refine MI.gs_ret ?_ | refine MI.gs_retN ?_ | refine MI.gs_expr ?_ | refine MI.gs_pass ?_ | refine MI.gs_brk ?_ | refine MI.gs_cont ?_ | refine MI.gs_while ?_ | refine MI.gs_for ?_ | refine MI.ge_of ?_ | refine MI.ga_val ?_ | refine MI.ga_new ?_ | refine MI.gl_nil ?_ | refine MI.gl_cons ?_ | refine MI.gr_nil ?_ | refine MI.gr_cons ?_ | refine MI.gi_rng ?_ | refine MI.gi_of ?_ | refine MI.gv_name ?_ | refine MI.gv_int ?_ | refine MI.gv_bl ?_ | refine MI.gv_str ?_ | refine MI.gv_non ?_ | refine MI.gv_ty ?_ | refine MI.gv_glob ?_ | refine MI.gv_bin ?_ | refine MI.gv_neg ?_ | refine MI.gv_not ?_ | refine MI.gv_and ?_ | refine MI.gv_or ?_ | refine MI.gand_one ?_ | refine MI.gand_cons ?_ | refine MI.gor_one ?_ | refine MI.gor_cons ?_ | refine MI.gv_cmp ?_ | refine MI.gv_chain ?_ | refine MI.gv_ife ?_ | refine MI.gv_idx ?_ | refine MI.gv_slice ?_ | refine MI.go_none ?_ | refine MI.go_some ?_ | refine MI.gv_rev ?_ | refine MI.gv_call ?_ | refine MI.gv_callK ?_ | refine MI.gv_bi ?_ | refine MI.gv_comp ?_ | refine MI.gv_pop ?_ | refine MI.gv_append ?_ | refine MI.gv_dct ?_ | refine MI.gt_not ?_ | refine MI.gt_and ?_ | refine MI.gt_or ?_ | refine MI.gandt_one ?_ | refine MI.gandt_cons ?_ | refine MI.gort_one ?_ | refine MI.gort_cons ?_ | refine MI.gt_val ?_ | refine MI.gifs_nil ?_ | refine MI.gifs_cons ?_ | refine MI.gif_true ?_ | refine MI.gif_false ?_ | refine MI.gif_not ?_ | refine MI.gb_add ?_ | refine MI.gb_sub ?_ | refine MI.gm_lt ?_ | refine MI.gm_le ?_ | refine MI.gm_gt ?_ | refine MI.gm_ge ?_ | refine MI.gm_eq ?_ | refine MI.gm_ne ?_ | refine MI.gm_seq ?_ | refine MI.gtr_bl ?_ | refine MI.gtr_int ?_ | refine MI.gbi_int_int ?_ | refine MI.gbi_int_bool ?_ | refine MI.gbi_int_tup ?_ | refine MI.gbi_int_list ?_ | refine MI.gbi_int_dict ?_ | refine MI.gbi_tup_tup ?_ | refine MI.gbi_bl_tup ?_ | refine MI.gbi_bl_list ?_ | refine MI.gbi_bl_dict ?_ | refine MI.gbi_bl_bool ?_ | refine MI.gbi_len_tup ?_ | refine MI.gbi_int1 ?_ | refine MI.gbi_max ?_)
    | refine s_isint ?_
    | with_reducible refine MI.gv_tup ?_
    | with_reducible refine MI.gv_lst ?_
    | with_reducible refine MI.gb_mod (by first | decide | omega) ?_
    | with_reducible refine MI.gb_div (by first | decide | assumption) ?_
    | with_reducible refine MI.gb_mul (by first | decide | assumption) ?_
    | with_reducible refine MI.gb_pow (by decide) ?_
    | with_reducible refine MI.gif_dec_t (by first | assumption | omega | decide) ?_
    | with_reducible refine MI.gif_dec_f (by first | assumption | omega | decide) ?_
    | refine MI.gif_t rfl ?_
    | refine MI.gif_f rfl ?_
    | with_reducible refine MI.grg_of (by omega) (by omega) ?_
    | refine MI.gx_of rfl ?_
    | refine MI.gbi_of rfl ?_
    | refine ⟨_, rfl, ?_⟩
    | refine ⟨_, _, rfl, rfl, ?_⟩
    | refine MI.glc_next rfl ?_
    | refine MI.glc_end rfl ?_
    | refine MI.glf_next rfl ?_
    | refine MI.glf_end rfl ?_
    | refine ⟨Nat.le_of_ble_eq_true rfl, ?_⟩)
  rw [decide_eq_true hi]
  exact h
theorem s_isrow {xs : List PV} {n : Int} (hn : (xs.length : Int) = n) (h : Q (.bl true) st) : GC G (d + 1) 2 [.tup xs, .int n] st Q := by
  refine c_is_row ?_
  repeat (first
    | with_reducible (first | refine MI.gss_cons ?_ | refine MI.gss_nil ?_ | refine MI.gn_next ?_ | refine MI.gn_ret ?_ | refine MI.gn_brk ?_ | refine MI.gn_cont ?_ | refine MI.gk_next ?_ | refine MI.gk_cont ?_ | refine MI.gk_brk ?_ | refine MI.gk_ret ?_ | refine MI.gf_ret ?_ | refine MI.gf_next ?_ | refine MI.gs_asg ?_ | refine MI.gs_asgT ?_ | refine MI.gs_par ?_ | refine MI.gs_put ?_ | refine MI.gs_if ?_ | refine MI.gs_ret ?_ | refine MI.gs_retN ?_ | refine MI.gs_expr ?_ | refine MI.gs_pass ?_ | refine MI.gs_brk ?_ | refine MI.gs_cont ?_ | refine MI.gs_while ?_ | refine MI.gs_for ?_ | refine MI.ge_of ?_ | refine MI.ga_val ?_ | refine MI.ga_new ?_ | refine MI.gl_nil ?_ | refine MI.gl_cons ?_ | refine MI.gr_nil ?_ | refine MI.gr_cons ?_ | refine MI.gi_rng ?_ | refine MI.gi_of ?_ | refine MI.gv_name ?_ | refine MI.gv_int ?_ | refine MI.gv_bl ?_ | refine MI.gv_str ?_ | refine MI.gv_non ?_ | refine MI.gv_ty ?_ | refine MI.gv_glob ?_ | refine MI.gv_bin ?_ | refine MI.gv_neg ?_ | refine MI.gv_not ?_ | refine MI.gv_and ?_ | refine MI.gv_or ?_ | refine MI.gand_one ?_ | refine MI.gand_cons ?_ | refine MI.gor_one ?_ | refine MI.gor_cons ?_ | refine MI.gv_cmp ?_ | refine MI.gv_chain ?_ | refine MI.gv_ife ?_ | refine MI.gv_idx ?_ | refine MI.gv_slice ?_ | refine MI.go_none ?_ | refine MI.go_some ?_ | refine MI.gv_rev ?_ | refine MI.gv_call ?_ | refine MI.gv_callK ?_ | refine MI.gv_bi ?_ | refine MI.gv_comp ?_ | refine MI.gv_pop ?_ | refine MI.gv_append ?_ | refine MI.gv_dct ?_ | refine MI.gt_not ?_ | refine MI.gt_and ?_ | refine MI.gt_or ?_ | refine MI.gandt_one ?_ | refine MI.gandt_cons ?_ | refine MI.gort_one ?_ | refine MI.gort_cons ?_ | refine MI.gt_val ?_ | refine MI.gifs_nil ?_ | refine MI.gifs_cons ?_ | refine MI.gif_true ?_ | refine MI.gif_false ?_ | refine MI.gif_not ?_ | refine MI.gb_add ?_ | refine MI.gb_sub ?_ | refine MI.gm_lt ?_ | refine MI.gm_le ?_ | refine MI.gm_gt ?_ | refine MI.gm_ge ?_ | refine MI.gm_eq ?_ | refine MI.gm_ne ?_ | refine MI.gm_seq ?_ | refine MI.gtr_bl ?_ | refine MI.gtr_int ?_ | refine MI.gbi_int_int ?_ | refine MI.gbi_int_bool ?_ | refine MI.gbi_int_tup ?_ | refine MI.gbi_int_list ?_ | refine MI.gbi_int_dict ?_ | refine MI.gbi_tup_tup ?_ | refine MI.gbi_bl_tup ?_ | refine MI.gbi_bl_list ?_ | refine MI.gbi_bl_dict ?_ | refine MI.gbi_bl_bool ?_ | refine MI.gbi_len_tup ?_ | refine MI.gbi_int1 ?_ | refine MI.gbi_max ?_)
    | with_reducible refine MI.gv_tup ?_
    | with_reducible refine MI.gv_lst ?_
    | with_reducible refine MI.gb_mod (by first | decide | omega) ?_
    | with_reducible refine MI.gb_div (by first | decide | assumption) ?_
    | with_reducible refine MI.gb_mul (by first | decide | assumption) ?_
    | with_reducible refine MI.gb_pow (by decide) ?_
    | with_reducible refine MI.gif_dec_t (by first | assumption | omega | decide) ?_
    | with_reducible refine MI.gif_dec_f (by first | assumption | omega | decide) ?_
    | refine MI.gif_t rfl ?_
    | refine MI.gif_f rfl ?_
    | with_reducible refine MI.grg_of (by omega) (by omega) ?_
    | refine MI.gx_of rfl ?_
    | refine MI.gbi_of rfl ?_
    | refine ⟨_, rfl, ?_⟩
    | refine ⟨_, _, rfl, rfl, ?_⟩
    | refine MI.glc_next rfl ?_
    | refine MI.glc_end rfl ?_
    | refine MI.glf_next rfl ?_
    | refine MI.glf_end rfl ?_
    | refine ⟨Nat.le_of_ble_eq_true rfl, ?_⟩)
  rw [decide_eq_true hn]
  exact h
end
end K01
end
section
set_option Elab.async false
set_option linter.all false
set_option maxRecDepth 100000
set_option maxHeartbeats 4000000
namespace K01
open PySem MI
/-! ### plain -/
structure Rt where
  a : Int
  b : Int
  c : Int
  d : Int
  k : Nat
def rv (x : Rt) : PV := .tup [.int x.a, .int x.b, .int x.c, .int x.d, .int x.k]
def Low (x : Rt) : Prop := x.k = 0 ∨ (x.a - x.c) % 2 = 1 ∨ (x.b - x.d) % 2 = 1
def lowQ : Nat → Int → Int → Int → Int → Rt
  | 0, a, b, c, d => ⟨a, b, c, d, 0⟩
  | k + 1, a, b, c, d => if (a - c) % 2 = 0 ∧ (b - d) % 2 = 0 then lowQ k ((b - d) / 2) ((a + c) / 2) ((b + d) / 2) ((c - a) / 2) else ⟨a, b, c, d, k + 1⟩
theorem lowQ_succ {k : Nat} {a b c d : Int} : lowQ (k + 1) a b c d = if (a - c) % 2 = 0 ∧ (b - d) % 2 = 0 then lowQ k ((b - d) / 2) ((a + c) / 2) ((b + d) / 2) ((c - a) / 2) else ⟨a, b, c, d, k + 1⟩ := rfl
/-- four numbers -/
structure Fo where
  a : Int
  b : Int
  c : Int
  d : Int
def fv (x : Fo) : PV := .tup [.int x.a, .int x.b, .int x.c, .int x.d]
def upF (x : Fo) : Fo := ⟨x.b - x.d, x.a + x.c, x.b + x.d, x.c - x.a⟩
def ups : Nat → Fo → Fo
  | 0, x => x
  | n + 1, x => upF (ups n x)
def sc (z : Int) (x : Fo) : Fo := ⟨z * x.a, z * x.b, z * x.c, z * x.d⟩
theorem upF_sc {z : Int} {x : Fo} : upF (sc z x) = sc z (upF x) := by
  unfold upF sc
  simp only [Int.mul_sub, Int.mul_add]
theorem up_up {x : Fo} : upF (upF x) = sc 2 x := by
  unfold upF sc
  simp only [Fo.mk.injEq]
  refine ⟨?_, ?_, ?_, ?_⟩ <;> omega
theorem sc_sc {y z : Int} {x : Fo} : sc y (sc z x) = sc (y * z) x := by
  unfold sc
  simp only [Int.mul_assoc]
theorem sc_one {x : Fo} : sc 1 x = x := by
  unfold sc
  simp only [Int.one_mul]
theorem ups_two (x : Fo) : ∀ n : Nat, ups (2 * n) x = sc (2 ^ n) x
  | 0 => by show x = sc 1 x; rw [sc_one]
  | n + 1 => by
    show upF (upF (ups (2 * n) x)) = _
    rw [up_up, ups_two x n, sc_sc, Int.pow_succ, Int.mul_comm]
theorem ups_odd (x : Fo) (n : Nat) : ups (2 * n + 1) x = sc (2 ^ n) (upF x) := by
  show upF (ups (2 * n) x) = _
  rw [ups_two, upF_sc]
def four (x : Rt) : Fo := ⟨x.a, x.b, x.c, x.d⟩
def lowF (k : Nat) (x : Fo) : Rt := lowQ k x.a x.b x.c x.d
theorem lowF_up {k : Nat} {x : Fo} : lowF (k + 1) (upF x) = lowF k x := by
  unfold lowF upF
  rw [lowQ_succ, if_pos ⟨by dsimp only; omega, by dsimp only; omega⟩]
  have e1 : (x.a + x.c - (x.c - x.a)) / 2 = x.a := by omega
  have e2 : (x.b - x.d + (x.b + x.d)) / 2 = x.b := by omega
  have e3 : (x.a + x.c + (x.c - x.a)) / 2 = x.c := by omega
  have e4 : (x.b + x.d - (x.b - x.d)) / 2 = x.d := by omega
  dsimp only
  rw [e1, e2, e3, e4]
theorem lowF_ups {k : Nat} {x : Fo} : ∀ n : Nat, lowF (k + n) (ups n x) = lowF k x
  | 0 => rfl
  | n + 1 => by
    show lowF (k + n + 1) (upF (ups n x)) = _
    rw [lowF_up, lowF_ups n]
theorem lowQ_low : ∀ {k : Nat} {a b c d : Int}, Low (lowQ k a b c d)
  | 0, a, b, c, d => .inl rfl
  | k + 1, a, b, c, d => by
    unfold lowQ
    split
    · exact lowQ_low
    · rename_i h
      right
      show (a - c) % 2 = 1 ∨ (b - d) % 2 = 1
      omega
theorem lowQ_id {x : Rt} (h : Low x) : lowF x.k (four x) = x := by
  obtain ⟨a, b, c, d, k⟩ := x
  cases k with
  | zero => rfl
  | succ k =>
    show lowQ (k + 1) a b c d = _
    rw [lowQ_succ, if_neg]
    rcases h with h | h | h
    · cases h
    · intro z; have : (a - c) % 2 = 1 := h; omega
    · intro z; have : (b - d) % 2 = 1 := h; omega
def addF (x y : Fo) : Fo := ⟨x.a + y.a, x.b + y.b, x.c + y.c, x.d + y.d⟩
def plusQ (x y : Rt) : Rt := lowF (max x.k y.k) (addF (ups (max x.k y.k - x.k) (four x)) (ups (max x.k y.k - y.k) (four y)))
def mulF (x y : Fo) : Fo := ⟨x.a * y.a - x.b * y.d - x.c * y.c - x.d * y.b, x.a * y.b + x.b * y.a - x.c * y.d - x.d * y.c, x.a * y.c + x.b * y.b + x.c * y.a - x.d * y.d, x.a * y.d + x.b * y.c + x.c * y.b + x.d * y.a⟩
def timesQ (x y : Rt) : Rt := lowF (x.k + y.k) (mulF (four x) (four y))
def negQ (x : Rt) : Rt := ⟨-x.a, -x.b, -x.c, -x.d, x.k⟩
def barQ (x : Rt) : Rt := ⟨x.a, -x.d, -x.c, -x.b, x.k⟩
def turn1 (x : Rt) : Rt := ⟨-x.d, x.a, x.b, x.c, x.k⟩
def turnQ : Nat → Rt → Rt
  | 0, x => x
  | n + 1, x => turn1 (turnQ n x)
theorem addF_comm {x y : Fo} : addF y x = addF x y := by
  unfold addF
  simp only [Fo.mk.injEq]
  refine ⟨?_, ?_, ?_, ?_⟩ <;> omega
theorem plusQ_comm {x y : Rt} : plusQ y x = plusQ x y := by
  unfold plusQ
  rw [Nat.max_comm, addF_comm]
theorem mulF_comm {x y : Fo} : mulF y x = mulF x y := by
  unfold mulF
  simp only [Fo.mk.injEq]
  have c := fun u v : Int => Int.mul_comm u v
  rw [c y.a x.a, c y.a x.b, c y.a x.c, c y.a x.d, c y.b x.a, c y.b x.b, c y.b x.c, c y.b x.d, c y.c x.a, c y.c x.b, c y.c x.c, c y.c x.d, c y.d x.a, c y.d x.b, c y.d x.c, c y.d x.d]
  refine ⟨?_, ?_, ?_, ?_⟩ <;> omega
theorem timesQ_comm {x y : Rt} : timesQ y x = timesQ x y := by
  unfold timesQ
  rw [Nat.add_comm, mulF_comm]
theorem low_neg {x : Rt} (h : Low x) : Low (negQ x) := by
  rcases h with h | h | h
  · exact .inl h
  · exact .inr (.inl (by show (-x.a - -x.c) % 2 = 1; omega))
  · exact .inr (.inr (by show (-x.b - -x.d) % 2 = 1; omega))
theorem low_bar {x : Rt} (h : Low x) : Low (barQ x) := by
  rcases h with h | h | h
  · exact .inl h
  · exact .inr (.inl (by show (x.a - -x.c) % 2 = 1; omega))
  · exact .inr (.inr (by show (-x.d - -x.b) % 2 = 1; omega))
theorem low_turn1 {x : Rt} (h : Low x) : Low (turn1 x) := by
  rcases h with h | h | h
  · exact .inl h
  · exact .inr (.inr (by show (x.a - x.c) % 2 = 1; omega))
  · exact .inr (.inl (by show (-x.d - x.b) % 2 = 1; omega))
theorem low_turn {x : Rt} (h : Low x) : ∀ n, Low (turnQ n x)
  | 0 => h
  | n + 1 => low_turn1 (low_turn h n)
/-! ### sizes -/
structure SzF (B : Nat) (x : Fo) : Prop where
  a : x.a.natAbs < 2 ^ B
  b : x.b.natAbs < 2 ^ B
  c : x.c.natAbs < 2 ^ B
  d : x.d.natAbs < 2 ^ B
structure Sz (B : Nat) (x : Rt) : Prop where
  f : SzF B (four x)
  k : x.k ≤ B
theorem SzF.mono {B C : Nat} {x : Fo} (h : SzF B x) (hb : B ≤ C) : SzF C x := ⟨sz_mono h.a hb, sz_mono h.b hb, sz_mono h.c hb, sz_mono h.d hb⟩
theorem Sz.mono {B C : Nat} {x : Rt} (h : Sz B x) (hb : B ≤ C) : Sz C x := ⟨h.f.mono hb, Nat.le_trans h.k hb⟩
theorem Sz.neg {B : Nat} {x : Rt} (h : Sz B x) : Sz B (negQ x) := ⟨⟨sz_neg h.f.a, sz_neg h.f.b, sz_neg h.f.c, sz_neg h.f.d⟩, h.k⟩
theorem Sz.bar {B : Nat} {x : Rt} (h : Sz B x) : Sz B (barQ x) := ⟨⟨h.f.a, sz_neg h.f.d, sz_neg h.f.c, sz_neg h.f.b⟩, h.k⟩
theorem Sz.turn1 {B : Nat} {x : Rt} (h : Sz B x) : Sz B (turn1 x) := ⟨⟨sz_neg h.f.d, h.f.a, h.f.b, h.f.c⟩, h.k⟩
theorem Sz.turn {B : Nat} {x : Rt} (h : Sz B x) : ∀ n, Sz B (turnQ n x)
  | 0 => h
  | n + 1 => (h.turn n).turn1
theorem half_lt {x y : Int} {B : Nat} (hx : x.natAbs < 2 ^ B) (hy : y.natAbs < 2 ^ B) : ((x + y) / 2).natAbs < 2 ^ B ∧ ((x - y) / 2).natAbs < 2 ^ B := by
  generalize (2 : Nat) ^ B = n at *
  constructor <;> omega
theorem lowQ_sz {B : Nat} : ∀ {k : Nat} {a b c d : Int}, a.natAbs < 2 ^ B → b.natAbs < 2 ^ B → c.natAbs < 2 ^ B → d.natAbs < 2 ^ B → k ≤ B → Sz B (lowQ k a b c d)
  | 0, a, b, c, d, h1, h2, h3, h4, _ => ⟨⟨h1, h2, h3, h4⟩, Nat.zero_le _⟩
  | k + 1, a, b, c, d, h1, h2, h3, h4, h5 => by
    unfold lowQ
    split
    · exact lowQ_sz (half_lt h2 h4).2 (half_lt h1 h3).1 (half_lt h2 h4).1 (half_lt h3 h1).2 (by omega)
    · exact ⟨⟨h1, h2, h3, h4⟩, h5⟩
theorem upF_sz {B : Nat} {x : Fo} (h : SzF B x) : SzF (B + 1) (upF x) := ⟨sz_sub h.b h.d, sz_add h.a h.c, sz_add h.b h.d, sz_sub h.c h.a⟩
theorem ups_sz {B : Nat} {x : Fo} (h : SzF B x) : ∀ n, SzF (B + n) (ups n x)
  | 0 => h
  | n + 1 => upF_sz (ups_sz h n)
theorem plusQ_sz {B : Nat} {x y : Rt} (hx : Sz B x) (hy : Sz B y) : Sz (2 * B + 1) (plusQ x y) := by
  have k1 := hx.k
  have k2 := hy.k
  have f1 := (ups_sz hx.f (max x.k y.k - x.k)).mono (show _ ≤ 2 * B by omega)
  have f2 := (ups_sz hy.f (max x.k y.k - y.k)).mono (show _ ≤ 2 * B by omega)
  exact lowQ_sz (sz_add f1.a f2.a) (sz_add f1.b f2.b) (sz_add f1.c f2.c) (sz_add f1.d f2.d) (by omega)
theorem pl_rv (x : Rt) : Pl 1 (rv x) := by
  refine ⟨by show 5 ≤ 1000; decide, fun v hv => ?_⟩
  simp only [List.mem_cons, List.not_mem_nil, or_false] at hv
  rcases hv with rfl | rfl | rfl | rfl | rfl <;> trivial
end K01
end
section
set_option Elab.async false
set_option linter.all false
set_option maxRecDepth 100000
set_option maxHeartbeats 4000000
namespace K01
open PySem MI
def Bd : Nat := 100000
def Sm (i : Int) : Prop := i.natAbs < 2 ^ Bd
theorem sm_mul {i j : Int} (hi : Sm i) (hj : Sm j) : mulOk i j = true := mulOk_of hi hj (by decide)
theorem sm_of {i : Int} {a : Nat} (h : i.natAbs < 2 ^ a) (ha : a ≤ 100000) : Sm i := Nat.lt_of_lt_of_le h (Nat.pow_le_pow_right (by decide) ha)
theorem sm_pow {n : Nat} (h : n ≤ 99000) : Sm (1 * 2 ^ n) := by
  rw [Int.one_mul]
  exact sm_of sz_pow (by omega)
theorem shl1 {j : Int} (h : 0 ≤ j) (h2 : j ≤ 100000) : shlOk 1 j = true := by
  unfold shlOk
  rw [Bool.and_eq_true]
  refine ⟨decide_eq_true h, decide_eq_true ?_⟩
  have : (Builtin.Int.intBits 1 : Int) ≤ 64 := by decide
  omega
theorem max_nat (a b : Nat) : max (a : Int) (b : Int) = ((max a b : Nat) : Int) := by omega
theorem plusQ_le {x y : Rt} (h : x.k ≤ y.k) : plusQ x y = lowQ y.k (y.a + (ups (y.k - x.k) (four x)).a) (y.b + (ups (y.k - x.k) (four x)).b) (y.c + (ups (y.k - x.k) (four x)).c) (y.d + (ups (y.k - x.k) (four x)).d) := by
  unfold plusQ
  rw [Nat.max_eq_right h, Nat.sub_self]
  show lowF y.k (addF _ (four y)) = _
  rw [addF_comm]
  rfl
section
variable {d : Nat} {st : Store} {Q : PV → Store → Prop}
theorem p_isroot {x : Rt} (hx : Low x) (h : Q (.bl true) st) : GC G (d + 3) 3 [rv x] st Q := by
  obtain ⟨a, b, c, e, k⟩ := x
  refine c_is_root_value ?_
  show GSs _ _ _ [some (.tup [.int a, .int b, .int c, .int e, .int k]), none, none, none, none, none, none] _ _
  by_cases h1 : (k : Int) = 0
  · repeat (first
      | with_reducible (first | refine MI.gss_cons ?_ | refine MI.gss_nil ?_ | refine MI.gn_next ?_ | refine MI.gn_ret ?_ | refine MI.gn_brk ?_ | refine MI.gn_cont ?_ | refine MI.gk_next ?_ | refine MI.gk_cont ?_ | refine MI.gk_brk ?_ | refine MI.gk_ret ?_ | refine MI.gf_ret ?_ | refine MI.gf_next ?_ | refine MI.gs_asg ?_ | refine MI.gs_asgT ?_ | refine MI.gs_par ?_ | refine MI.gs_put ?_ | refine MI.gs_if ?_ | refine MI.gs_ret ?_ | refine MI.gs_retN ?_ | refine MI.gs_expr ?_ | refine MI.gs_pass ?_ | refine MI.gs_brk ?_ | refine MI.gs_cont ?_ | refine MI.gs_while ?_ | refine MI.gs_for ?_ | refine MI.ge_of ?_ | refine MI.ga_val ?_ | refine MI.ga_new ?_ | refine MI.gl_nil ?_ | refine MI.gl_cons ?_ | refine MI.gr_nil ?_ | refine MI.gr_cons ?_ | refine MI.gi_rng ?_ | refine MI.gi_of ?_ | refine MI.gv_name ?_ | refine MI.gv_int ?_ | refine MI.gv_bl ?_ | refine MI.gv_str ?_ | refine MI.gv_non ?_ | refine MI.gv_ty ?_ | refine MI.gv_glob ?_ | refine MI.gv_bin ?_ | refine MI.gv_neg ?_ | refine MI.gv_not ?_ | refine MI.gv_and ?_ | refine MI.gv_or ?_ | refine MI.gand_one ?_ | refine MI.gand_cons ?_ | refine MI.gor_one ?_ | refine MI.gor_cons ?_ | refine MI.gv_cmp ?_ | refine MI.gv_chain ?_ | refine MI.gv_ife ?_ | refine MI.gv_idx ?_ | refine MI.gv_slice ?_ | refine MI.go_none ?_ | refine MI.go_some ?_ | refine MI.gv_rev ?_ | refine MI.gv_call ?_ | refine MI.gv_callK ?_ | refine MI.gv_bi ?_ | refine MI.gv_comp ?_ | refine MI.gv_pop ?_ | refine MI.gv_append ?_ | refine MI.gv_dct ?_ | refine MI.gt_not ?_ | refine MI.gt_and ?_ | refine MI.gt_or ?_ | refine MI.gandt_one ?_ | refine MI.gandt_cons ?_ | refine MI.gort_one ?_ | refine MI.gort_cons ?_ | refine MI.gt_val ?_ | refine MI.gifs_nil ?_ | refine MI.gifs_cons ?_ | refine MI.gif_true ?_ | refine MI.gif_false ?_ | refine MI.gif_not ?_ | refine MI.gb_add ?_ | refine MI.gb_sub ?_ | refine MI.gm_lt ?_ | refine MI.gm_le ?_ | refine MI.gm_gt ?_ | refine MI.gm_ge ?_ | refine MI.gm_eq ?_ | refine MI.gm_ne ?_ | refine MI.gm_seq ?_ | refine MI.gtr_bl ?_ | refine MI.gtr_int ?_ | refine MI.gbi_int_int ?_ | refine MI.gbi_int_bool ?_ | refine MI.gbi_int_tup ?_ | refine MI.gbi_int_list ?_ | refine MI.gbi_int_dict ?_ | refine MI.gbi_tup_tup ?_ | refine MI.gbi_bl_tup ?_ | refine MI.gbi_bl_list ?_ | refine MI.gbi_bl_dict ?_ | refine MI.gbi_bl_bool ?_ | refine MI.gbi_len_tup ?_ | refine MI.gbi_int1 ?_ | refine MI.gbi_max ?_)
      | refine s_isint ?_
      | refine s_isfrom (by omega) ?_
      | refine s_isrow (by rfl) ?_
      | with_reducible refine MI.gv_tup ?_
      | with_reducible refine MI.gv_lst ?_
      | with_reducible refine MI.gb_mod (by first | decide | omega) ?_
      | with_reducible refine MI.gb_div (by first | decide | assumption) ?_
      | with_reducible refine MI.gb_mul (by first | decide | assumption) ?_
      | with_reducible refine MI.gb_pow (by decide) ?_
      | with_reducible refine MI.gif_dec_t (by first | assumption | omega | decide) ?_
      | with_reducible refine MI.gif_dec_f (by first | assumption | omega | decide) ?_
      | refine MI.gif_t rfl ?_
      | refine MI.gif_f rfl ?_
      | with_reducible refine MI.grg_of (by omega) (by omega) ?_
      | refine MI.gx_of rfl ?_
      | refine MI.gbi_of rfl ?_
      | refine ⟨_, rfl, ?_⟩
      | refine ⟨_, _, rfl, rfl, ?_⟩
      | refine MI.glc_next rfl ?_
      | refine MI.glc_end rfl ?_
      | refine MI.glf_next rfl ?_
      | refine MI.glf_end rfl ?_
      | refine ⟨Nat.le_of_ble_eq_true rfl, ?_⟩)
    exact h
  · by_cases h2 : (a - c) % 2 = 1
    · repeat (first
        | with_reducible (first | refine MI.gss_cons ?_ | refine MI.gss_nil ?_ | refine MI.gn_next ?_ | refine MI.gn_ret ?_ | refine MI.gn_brk ?_ | refine MI.gn_cont ?_ | refine MI.gk_next ?_ | refine MI.gk_cont ?_ | refine MI.gk_brk ?_ | refine MI.gk_ret ?_ | refine MI.gf_ret ?_ | refine MI.gf_next ?_ | refine MI.gs_asg ?_ | refine MI.gs_asgT ?_ | refine MI.gs_par ?_ | refine MI.gs_put ?_ | refine MI.gs_if ?_ | refine MI.gs_ret ?_ | refine MI.gs_retN ?_ | refine MI.gs_expr ?_ | refine MI.gs_pass ?_ | refine MI.gs_brk ?_ | refine MI.gs_cont ?_ | refine MI.gs_while ?_ | refine MI.gs_for ?_ | refine MI.ge_of ?_ | refine MI.ga_val ?_ | refine MI.ga_new ?_ | refine MI.gl_nil ?_ | refine MI.gl_cons ?_ | refine MI.gr_nil ?_ | refine MI.gr_cons ?_ | refine MI.gi_rng ?_ | refine MI.gi_of ?_ | refine MI.gv_name ?_ | refine MI.gv_int ?_ | refine MI.gv_bl ?_ | refine MI.gv_str ?_ | refine MI.gv_non ?_ | refine MI.gv_ty ?_ | refine MI.gv_glob ?_ | refine MI.gv_bin ?_ | refine MI.gv_neg ?_ | refine MI.gv_not ?_ | refine MI.gv_and ?_ | refine MI.gv_or ?_ | refine MI.gand_one ?_ | refine MI.gand_cons ?_ | refine MI.gor_one ?_ | refine MI.gor_cons ?_ | refine MI.gv_cmp ?_ | refine MI.gv_chain ?_ | refine MI.gv_ife ?_ | refine MI.gv_idx ?_ | refine MI.gv_slice ?_ | refine MI.go_none ?_ | refine MI.go_some ?_ | refine MI.gv_rev ?_ | refine MI.gv_call ?_ | refine MI.gv_callK ?_ | refine MI.gv_bi ?_ | refine MI.gv_comp ?_ | refine MI.gv_pop ?_ | refine MI.gv_append ?_ | refine MI.gv_dct ?_ | refine MI.gt_not ?_ | refine MI.gt_and ?_ | refine MI.gt_or ?_ | refine MI.gandt_one ?_ | refine MI.gandt_cons ?_ | refine MI.gort_one ?_ | refine MI.gort_cons ?_ | refine MI.gt_val ?_ | refine MI.gifs_nil ?_ | refine MI.gifs_cons ?_ | refine MI.gif_true ?_ | refine MI.gif_false ?_ | refine MI.gif_not ?_ | refine MI.gb_add ?_ | refine MI.gb_sub ?_ | refine MI.gm_lt ?_ | refine MI.gm_le ?_ | refine MI.gm_gt ?_ | refine MI.gm_ge ?_ | refine MI.gm_eq ?_ | refine MI.gm_ne ?_ | refine MI.gm_seq ?_ | refine MI.gtr_bl ?_ | refine MI.gtr_int ?_ | refine MI.gbi_int_int ?_ | refine MI.gbi_int_bool ?_ | refine MI.gbi_int_tup ?_ | refine MI.gbi_int_list ?_ | refine MI.gbi_int_dict ?_ | refine MI.gbi_tup_tup ?_ | refine MI.gbi_bl_tup ?_ | refine MI.gbi_bl_list ?_ | refine MI.gbi_bl_dict ?_ | refine MI.gbi_bl_bool ?_ | refine MI.gbi_len_tup ?_ | refine MI.gbi_int1 ?_ | refine MI.gbi_max ?_)
        | refine s_isint ?_
        | refine s_isfrom (by omega) ?_
        | refine s_isrow (by rfl) ?_
        | with_reducible refine MI.gv_tup ?_
        | with_reducible refine MI.gv_lst ?_
        | with_reducible refine MI.gb_mod (by first | decide | omega) ?_
        | with_reducible refine MI.gb_div (by first | decide | assumption) ?_
        | with_reducible refine MI.gb_mul (by first | decide | assumption) ?_
        | with_reducible refine MI.gb_pow (by decide) ?_
        | with_reducible refine MI.gif_dec_t (by first | assumption | omega | decide) ?_
        | with_reducible refine MI.gif_dec_f (by first | assumption | omega | decide) ?_
        | refine MI.gif_t rfl ?_
        | refine MI.gif_f rfl ?_
        | with_reducible refine MI.grg_of (by omega) (by omega) ?_
        | refine MI.gx_of rfl ?_
        | refine MI.gbi_of rfl ?_
        | refine ⟨_, rfl, ?_⟩
        | refine ⟨_, _, rfl, rfl, ?_⟩
        | refine MI.glc_next rfl ?_
        | refine MI.glc_end rfl ?_
        | refine MI.glf_next rfl ?_
        | refine MI.glf_end rfl ?_
        | refine ⟨Nat.le_of_ble_eq_true rfl, ?_⟩)
      exact h
    · have h3 : (b - e) % 2 = 1 := by
        rcases hx with z | z | z
        · exact absurd (show (k : Int) = 0 by have : k = 0 := z; omega) h1
        · exact absurd z h2
        · exact z
      repeat (first
        | with_reducible (first | refine MI.gss_cons ?_ | refine MI.gss_nil ?_ | refine MI.gn_next ?_ | refine MI.gn_ret ?_ | refine MI.gn_brk ?_ | refine MI.gn_cont ?_ | refine MI.gk_next ?_ | refine MI.gk_cont ?_ | refine MI.gk_brk ?_ | refine MI.gk_ret ?_ | refine MI.gf_ret ?_ | refine MI.gf_next ?_ | refine MI.gs_asg ?_ | refine MI.gs_asgT ?_ | refine MI.gs_par ?_ | refine MI.gs_put ?_ | refine MI.gs_if ?_ | refine MI.gs_ret ?_ | refine MI.gs_retN ?_ | refine MI.gs_expr ?_ | refine MI.gs_pass ?_ | refine MI.gs_brk ?_ | refine MI.gs_cont ?_ | refine MI.gs_while ?_ | refine MI.gs_for ?_ | refine MI.ge_of ?_ | refine MI.ga_val ?_ | refine MI.ga_new ?_ | refine MI.gl_nil ?_ | refine MI.gl_cons ?_ | refine MI.gr_nil ?_ | refine MI.gr_cons ?_ | refine MI.gi_rng ?_ | refine MI.gi_of ?_ | refine MI.gv_name ?_ | refine MI.gv_int ?_ | refine MI.gv_bl ?_ | refine MI.gv_str ?_ | refine MI.gv_non ?_ | refine MI.gv_ty ?_ | refine MI.gv_glob ?_ | refine MI.gv_bin ?_ | refine MI.gv_neg ?_ | refine MI.gv_not ?_ | refine MI.gv_and ?_ | refine MI.gv_or ?_ | refine MI.gand_one ?_ | refine MI.gand_cons ?_ | refine MI.gor_one ?_ | refine MI.gor_cons ?_ | refine MI.gv_cmp ?_ | refine MI.gv_chain ?_ | refine MI.gv_ife ?_ | refine MI.gv_idx ?_ | refine MI.gv_slice ?_ | refine MI.go_none ?_ | refine MI.go_some ?_ | refine MI.gv_rev ?_ | refine MI.gv_call ?_ | refine MI.gv_callK ?_ | refine MI.gv_bi ?_ | refine MI.gv_comp ?_ | refine MI.gv_pop ?_ | refine MI.gv_append ?_ | refine MI.gv_dct ?_ | refine MI.gt_not ?_ | refine MI.gt_and ?_ | refine MI.gt_or ?_ | refine MI.gandt_one ?_ | refine MI.gandt_cons ?_ | refine MI.gort_one ?_ | refine MI.gort_cons ?_ | refine MI.gt_val ?_ | refine MI.gifs_nil ?_ | refine MI.gifs_cons ?_ | refine MI.gif_true ?_ | refine MI.gif_false ?_ | refine MI.gif_not ?_ | refine MI.gb_add ?_ | refine MI.gb_sub ?_ | refine MI.gm_lt ?_ | refine MI.gm_le ?_ | refine MI.gm_gt ?_ | refine MI.gm_ge ?_ | refine MI.gm_eq ?_ | refine MI.gm_ne ?_ | refine MI.gm_seq ?_ | refine MI.gtr_bl ?_ | refine MI.gtr_int ?_ | refine MI.gbi_int_int ?_ | refine MI.gbi_int_bool ?_ | refine MI.gbi_int_tup ?_ | refine MI.gbi_int_list ?_ | refine MI.gbi_int_dict ?_ | refine MI.gbi_tup_tup ?_ | refine MI.gbi_bl_tup ?_ | refine MI.gbi_bl_list ?_ | refine MI.gbi_bl_dict ?_ | refine MI.gbi_bl_bool ?_ | refine MI.gbi_len_tup ?_ | refine MI.gbi_int1 ?_ | refine MI.gbi_max ?_)
        | refine s_isint ?_
        | refine s_isfrom (by omega) ?_
        | refine s_isrow (by rfl) ?_
        | with_reducible refine MI.gv_tup ?_
        | with_reducible refine MI.gv_lst ?_
        | with_reducible refine MI.gb_mod (by first | decide | omega) ?_
        | with_reducible refine MI.gb_div (by first | decide | assumption) ?_
        | with_reducible refine MI.gb_mul (by first | decide | assumption) ?_
        | with_reducible refine MI.gb_pow (by decide) ?_
        | with_reducible refine MI.gif_dec_t (by first | assumption | omega | decide) ?_
        | with_reducible refine MI.gif_dec_f (by first | assumption | omega | decide) ?_
        | refine MI.gif_t rfl ?_
        | refine MI.gif_f rfl ?_
        | with_reducible refine MI.grg_of (by omega) (by omega) ?_
        | refine MI.gx_of rfl ?_
        | refine MI.gbi_of rfl ?_
        | refine ⟨_, rfl, ?_⟩
        | refine ⟨_, _, rfl, rfl, ?_⟩
        | refine MI.glc_next rfl ?_
        | refine MI.glc_end rfl ?_
        | refine MI.glf_next rfl ?_
        | refine MI.glf_end rfl ?_
        | refine ⟨Nat.le_of_ble_eq_true rfl, ?_⟩)
      rw [decide_eq_true h3]
      exact h
theorem p_need {x : Rt} (hx : Low x) (h : Q .non st) : GC G (d + 4) 11 [rv x] st Q := by
  refine c_need_root ?_
  repeat (first
    | with_reducible (first | refine MI.gss_cons ?_ | refine MI.gss_nil ?_ | refine MI.gn_next ?_ | refine MI.gn_ret ?_ | refine MI.gn_brk ?_ | refine MI.gn_cont ?_ | refine MI.gk_next ?_ | refine MI.gk_cont ?_ | refine MI.gk_brk ?_ | refine MI.gk_ret ?_ | refine MI.gf_ret ?_ | refine MI.gf_next ?_ | refine MI.gs_asg ?_ | refine MI.gs_asgT ?_ | refine MI.gs_par ?_ | refine MI.gs_put ?_ | refine MI.gs_if ?_ | refine MI.gs_ret ?_ | refine MI.gs_retN ?_ | refine MI.gs_expr ?_ | refine MI.gs_pass ?_ | refine MI.gs_brk ?_ | refine MI.gs_cont ?_ | refine MI.gs_while ?_ | refine MI.gs_for ?_ | refine MI.ge_of ?_ | refine MI.ga_val ?_ | refine MI.ga_new ?_ | refine MI.gl_nil ?_ | refine MI.gl_cons ?_ | refine MI.gr_nil ?_ | refine MI.gr_cons ?_ | refine MI.gi_rng ?_ | refine MI.gi_of ?_ | refine MI.gv_name ?_ | refine MI.gv_int ?_ | refine MI.gv_bl ?_ | refine MI.gv_str ?_ | refine MI.gv_non ?_ | refine MI.gv_ty ?_ | refine MI.gv_glob ?_ | refine MI.gv_bin ?_ | refine MI.gv_neg ?_ | refine MI.gv_not ?_ | refine MI.gv_and ?_ | refine MI.gv_or ?_ | refine MI.gand_one ?_ | refine MI.gand_cons ?_ | refine MI.gor_one ?_ | refine MI.gor_cons ?_ | refine MI.gv_cmp ?_ | refine MI.gv_chain ?_ | refine MI.gv_ife ?_ | refine MI.gv_idx ?_ | refine MI.gv_slice ?_ | refine MI.go_none ?_ | refine MI.go_some ?_ | refine MI.gv_rev ?_ | refine MI.gv_call ?_ | refine MI.gv_callK ?_ | refine MI.gv_bi ?_ | refine MI.gv_comp ?_ | refine MI.gv_pop ?_ | refine MI.gv_append ?_ | refine MI.gv_dct ?_ | refine MI.gt_not ?_ | refine MI.gt_and ?_ | refine MI.gt_or ?_ | refine MI.gandt_one ?_ | refine MI.gandt_cons ?_ | refine MI.gort_one ?_ | refine MI.gort_cons ?_ | refine MI.gt_val ?_ | refine MI.gifs_nil ?_ | refine MI.gifs_cons ?_ | refine MI.gif_true ?_ | refine MI.gif_false ?_ | refine MI.gif_not ?_ | refine MI.gb_add ?_ | refine MI.gb_sub ?_ | refine MI.gm_lt ?_ | refine MI.gm_le ?_ | refine MI.gm_gt ?_ | refine MI.gm_ge ?_ | refine MI.gm_eq ?_ | refine MI.gm_ne ?_ | refine MI.gm_seq ?_ | refine MI.gtr_bl ?_ | refine MI.gtr_int ?_ | refine MI.gbi_int_int ?_ | refine MI.gbi_int_bool ?_ | refine MI.gbi_int_tup ?_ | refine MI.gbi_int_list ?_ | refine MI.gbi_int_dict ?_ | refine MI.gbi_tup_tup ?_ | refine MI.gbi_bl_tup ?_ | refine MI.gbi_bl_list ?_ | refine MI.gbi_bl_dict ?_ | refine MI.gbi_bl_bool ?_ | refine MI.gbi_len_tup ?_ | refine MI.gbi_int1 ?_ | refine MI.gbi_max ?_)
    | refine p_isroot hx ?_
    | with_reducible refine MI.gv_tup ?_
    | with_reducible refine MI.gv_lst ?_
    | with_reducible refine MI.gb_mod (by first | decide | omega) ?_
    | with_reducible refine MI.gb_div (by first | decide | assumption) ?_
    | with_reducible refine MI.gb_mul (by first | decide | assumption) ?_
    | with_reducible refine MI.gb_pow (by decide) ?_
    | with_reducible refine MI.gif_dec_t (by first | assumption | omega | decide) ?_
    | with_reducible refine MI.gif_dec_f (by first | assumption | omega | decide) ?_
    | refine MI.gif_t rfl ?_
    | refine MI.gif_f rfl ?_
    | with_reducible refine MI.grg_of (by omega) (by omega) ?_
    | refine MI.gx_of rfl ?_
    | refine MI.gbi_of rfl ?_
    | refine ⟨_, rfl, ?_⟩
    | refine ⟨_, _, rfl, rfl, ?_⟩
    | refine MI.glc_next rfl ?_
    | refine MI.glc_end rfl ?_
    | refine MI.glf_next rfl ?_
    | refine MI.glf_end rfl ?_
    | refine ⟨Nat.le_of_ble_eq_true rfl, ?_⟩)
  exact h
theorem w_low4 {Q : Out → Store → Prop} : ∀ {k : Nat} {a b c e : Int}, Q (.next [some (.int (lowQ k a b c e).a), some (.int (lowQ k a b c e).b), some (.int (lowQ k a b c e).c), some (.int (lowQ k a b c e).d), some (.int ((lowQ k a b c e).k : Nat))]) st → GLw G d (.tand [(.tval (.cmp .Gt (.var 4) (.lit (.int 0)))), (.tval (.cmp .Eq (.bin .Mod (.bin .Sub (.var 0) (.var 2)) (.lit (.int 2))) (.lit (.int 0)))), (.tval (.cmp .Eq (.bin .Mod (.bin .Sub (.var 1) (.var 3)) (.lit (.int 2))) (.lit (.int 0))))]) [(.par [0, 1, 2, 3, 4] [(.bin .FloorDiv (.bin .Sub (.var 1) (.var 3)) (.lit (.int 2))), (.bin .FloorDiv (.bin .Add (.var 0) (.var 2)) (.lit (.int 2))), (.bin .FloorDiv (.bin .Add (.var 1) (.var 3)) (.lit (.int 2))), (.bin .FloorDiv (.bin .Sub (.var 2) (.var 0)) (.lit (.int 2))), (.bin .Sub (.var 4) (.lit (.int 1)))])] [some (.int a), some (.int b), some (.int c), some (.int e), some (.int (k : Nat))] st Q
  | 0, a, b, c, e, h => by
    refine glw_turn ?_
    repeat (first
      | with_reducible (first | refine MI.gss_cons ?_ | refine MI.gss_nil ?_ | refine MI.gn_next ?_ | refine MI.gn_ret ?_ | refine MI.gn_brk ?_ | refine MI.gn_cont ?_ | refine MI.gk_next ?_ | refine MI.gk_cont ?_ | refine MI.gk_brk ?_ | refine MI.gk_ret ?_ | refine MI.gf_ret ?_ | refine MI.gf_next ?_ | refine MI.gs_asg ?_ | refine MI.gs_asgT ?_ | refine MI.gs_par ?_ | refine MI.gs_put ?_ | refine MI.gs_if ?_ | refine MI.gs_ret ?_ | refine MI.gs_retN ?_ | refine MI.gs_expr ?_ | refine MI.gs_pass ?_ | refine MI.gs_brk ?_ | refine MI.gs_cont ?_ | refine MI.gs_while ?_ | refine MI.gs_for ?_ | refine MI.ge_of ?_ | refine MI.ga_val ?_ | refine MI.ga_new ?_ | refine MI.gl_nil ?_ | refine MI.gl_cons ?_ | refine MI.gr_nil ?_ | refine MI.gr_cons ?_ | refine MI.gi_rng ?_ | refine MI.gi_of ?_ | refine MI.gv_name ?_ | refine MI.gv_int ?_ | refine MI.gv_bl ?_ | refine MI.gv_str ?_ | refine MI.gv_non ?_ | refine MI.gv_ty ?_ | refine MI.gv_glob ?_ | refine MI.gv_bin ?_ | refine MI.gv_neg ?_ | refine MI.gv_not ?_ | refine MI.gv_and ?_ | refine MI.gv_or ?_ | refine MI.gand_one ?_ | refine MI.gand_cons ?_ | refine MI.gor_one ?_ | refine MI.gor_cons ?_ | refine MI.gv_cmp ?_ | refine MI.gv_chain ?_ | refine MI.gv_ife ?_ | refine MI.gv_idx ?_ | refine MI.gv_slice ?_ | refine MI.go_none ?_ | refine MI.go_some ?_ | refine MI.gv_rev ?_ | refine MI.gv_call ?_ | refine MI.gv_callK ?_ | refine MI.gv_bi ?_ | refine MI.gv_comp ?_ | refine MI.gv_pop ?_ | refine MI.gv_append ?_ | refine MI.gv_dct ?_ | refine MI.gt_not ?_ | refine MI.gt_and ?_ | refine MI.gt_or ?_ | refine MI.gandt_one ?_ | refine MI.gandt_cons ?_ | refine MI.gort_one ?_ | refine MI.gort_cons ?_ | refine MI.gt_val ?_ | refine MI.gifs_nil ?_ | refine MI.gifs_cons ?_ | refine MI.gif_true ?_ | refine MI.gif_false ?_ | refine MI.gif_not ?_ | refine MI.gb_add ?_ | refine MI.gb_sub ?_ | refine MI.gm_lt ?_ | refine MI.gm_le ?_ | refine MI.gm_gt ?_ | refine MI.gm_ge ?_ | refine MI.gm_eq ?_ | refine MI.gm_ne ?_ | refine MI.gm_seq ?_ | refine MI.gtr_bl ?_ | refine MI.gtr_int ?_ | refine MI.gbi_int_int ?_ | refine MI.gbi_int_bool ?_ | refine MI.gbi_int_tup ?_ | refine MI.gbi_int_list ?_ | refine MI.gbi_int_dict ?_ | refine MI.gbi_tup_tup ?_ | refine MI.gbi_bl_tup ?_ | refine MI.gbi_bl_list ?_ | refine MI.gbi_bl_dict ?_ | refine MI.gbi_bl_bool ?_ | refine MI.gbi_len_tup ?_ | refine MI.gbi_int1 ?_ | refine MI.gbi_max ?_)
      | with_reducible refine MI.gv_tup ?_
      | with_reducible refine MI.gv_lst ?_
      | with_reducible refine MI.gb_mod (by first | decide | omega) ?_
      | with_reducible refine MI.gb_div (by first | decide | assumption) ?_
      | with_reducible refine MI.gb_mul (by first | decide | assumption) ?_
      | with_reducible refine MI.gb_pow (by decide) ?_
      | with_reducible refine MI.gif_dec_t (by first | assumption | omega | decide) ?_
      | with_reducible refine MI.gif_dec_f (by first | assumption | omega | decide) ?_
      | refine MI.gif_t rfl ?_
      | refine MI.gif_f rfl ?_
      | with_reducible refine MI.grg_of (by omega) (by omega) ?_
      | refine MI.gx_of rfl ?_
      | refine MI.gbi_of rfl ?_
      | refine ⟨_, rfl, ?_⟩
      | refine ⟨_, _, rfl, rfl, ?_⟩
      | refine MI.glc_next rfl ?_
      | refine MI.glc_end rfl ?_
      | refine MI.glf_next rfl ?_
      | refine MI.glf_end rfl ?_
      | refine ⟨Nat.le_of_ble_eq_true rfl, ?_⟩)
    exact h
  | k + 1, a, b, c, e, h => by
    refine glw_turn ?_
    rw [lowQ_succ] at h
    by_cases h1 : (a - c) % 2 = 0
    · by_cases h2 : (b - e) % 2 = 0
      · rw [if_pos ⟨h1, h2⟩] at h
        repeat (first
          | with_reducible (first | refine MI.gss_cons ?_ | refine MI.gss_nil ?_ | refine MI.gn_next ?_ | refine MI.gn_ret ?_ | refine MI.gn_brk ?_ | refine MI.gn_cont ?_ | refine MI.gk_next ?_ | refine MI.gk_cont ?_ | refine MI.gk_brk ?_ | refine MI.gk_ret ?_ | refine MI.gf_ret ?_ | refine MI.gf_next ?_ | refine MI.gs_asg ?_ | refine MI.gs_asgT ?_ | refine MI.gs_par ?_ | refine MI.gs_put ?_ | refine MI.gs_if ?_ | refine MI.gs_ret ?_ | refine MI.gs_retN ?_ | refine MI.gs_expr ?_ | refine MI.gs_pass ?_ | refine MI.gs_brk ?_ | refine MI.gs_cont ?_ | refine MI.gs_while ?_ | refine MI.gs_for ?_ | refine MI.ge_of ?_ | refine MI.ga_val ?_ | refine MI.ga_new ?_ | refine MI.gl_nil ?_ | refine MI.gl_cons ?_ | refine MI.gr_nil ?_ | refine MI.gr_cons ?_ | refine MI.gi_rng ?_ | refine MI.gi_of ?_ | refine MI.gv_name ?_ | refine MI.gv_int ?_ | refine MI.gv_bl ?_ | refine MI.gv_str ?_ | refine MI.gv_non ?_ | refine MI.gv_ty ?_ | refine MI.gv_glob ?_ | refine MI.gv_bin ?_ | refine MI.gv_neg ?_ | refine MI.gv_not ?_ | refine MI.gv_and ?_ | refine MI.gv_or ?_ | refine MI.gand_one ?_ | refine MI.gand_cons ?_ | refine MI.gor_one ?_ | refine MI.gor_cons ?_ | refine MI.gv_cmp ?_ | refine MI.gv_chain ?_ | refine MI.gv_ife ?_ | refine MI.gv_idx ?_ | refine MI.gv_slice ?_ | refine MI.go_none ?_ | refine MI.go_some ?_ | refine MI.gv_rev ?_ | refine MI.gv_call ?_ | refine MI.gv_callK ?_ | refine MI.gv_bi ?_ | refine MI.gv_comp ?_ | refine MI.gv_pop ?_ | refine MI.gv_append ?_ | refine MI.gv_dct ?_ | refine MI.gt_not ?_ | refine MI.gt_and ?_ | refine MI.gt_or ?_ | refine MI.gandt_one ?_ | refine MI.gandt_cons ?_ | refine MI.gort_one ?_ | refine MI.gort_cons ?_ | refine MI.gt_val ?_ | refine MI.gifs_nil ?_ | refine MI.gifs_cons ?_ | refine MI.gif_true ?_ | refine MI.gif_false ?_ | refine MI.gif_not ?_ | refine MI.gb_add ?_ | refine MI.gb_sub ?_ | refine MI.gm_lt ?_ | refine MI.gm_le ?_ | refine MI.gm_gt ?_ | refine MI.gm_ge ?_ | refine MI.gm_eq ?_ | refine MI.gm_ne ?_ | refine MI.gm_seq ?_ | refine MI.gtr_bl ?_ | refine MI.gtr_int ?_ | refine MI.gbi_int_int ?_ | refine MI.gbi_int_bool ?_ | refine MI.gbi_int_tup ?_ | refine MI.gbi_int_list ?_ | refine MI.gbi_int_dict ?_ | refine MI.gbi_tup_tup ?_ | refine MI.gbi_bl_tup ?_ | refine MI.gbi_bl_list ?_ | refine MI.gbi_bl_dict ?_ | refine MI.gbi_bl_bool ?_ | refine MI.gbi_len_tup ?_ | refine MI.gbi_int1 ?_ | refine MI.gbi_max ?_)
          | with_reducible refine MI.gv_tup ?_
          | with_reducible refine MI.gv_lst ?_
          | with_reducible refine MI.gb_mod (by first | decide | omega) ?_
          | with_reducible refine MI.gb_div (by first | decide | assumption) ?_
          | with_reducible refine MI.gb_mul (by first | decide | assumption) ?_
          | with_reducible refine MI.gb_pow (by decide) ?_
          | with_reducible refine MI.gif_dec_t (by first | assumption | omega | decide) ?_
          | with_reducible refine MI.gif_dec_f (by first | assumption | omega | decide) ?_
          | refine MI.gif_t rfl ?_
          | refine MI.gif_f rfl ?_
          | with_reducible refine MI.grg_of (by omega) (by omega) ?_
          | refine MI.gx_of rfl ?_
          | refine MI.gbi_of rfl ?_
          | refine ⟨_, rfl, ?_⟩
          | refine ⟨_, _, rfl, rfl, ?_⟩
          | refine MI.glc_next rfl ?_
          | refine MI.glc_end rfl ?_
          | refine MI.glf_next rfl ?_
          | refine MI.glf_end rfl ?_
          | refine ⟨Nat.le_of_ble_eq_true rfl, ?_⟩)
        rw [show ((k + 1 : Nat) : Int) - 1 = (k : Nat) by omega]
        exact w_low4 h
      · rw [if_neg (fun z => h2 z.2)] at h
        repeat (first
          | with_reducible (first | refine MI.gss_cons ?_ | refine MI.gss_nil ?_ | refine MI.gn_next ?_ | refine MI.gn_ret ?_ | refine MI.gn_brk ?_ | refine MI.gn_cont ?_ | refine MI.gk_next ?_ | refine MI.gk_cont ?_ | refine MI.gk_brk ?_ | refine MI.gk_ret ?_ | refine MI.gf_ret ?_ | refine MI.gf_next ?_ | refine MI.gs_asg ?_ | refine MI.gs_asgT ?_ | refine MI.gs_par ?_ | refine MI.gs_put ?_ | refine MI.gs_if ?_ | refine MI.gs_ret ?_ | refine MI.gs_retN ?_ | refine MI.gs_expr ?_ | refine MI.gs_pass ?_ | refine MI.gs_brk ?_ | refine MI.gs_cont ?_ | refine MI.gs_while ?_ | refine MI.gs_for ?_ | refine MI.ge_of ?_ | refine MI.ga_val ?_ | refine MI.ga_new ?_ | refine MI.gl_nil ?_ | refine MI.gl_cons ?_ | refine MI.gr_nil ?_ | refine MI.gr_cons ?_ | refine MI.gi_rng ?_ | refine MI.gi_of ?_ | refine MI.gv_name ?_ | refine MI.gv_int ?_ | refine MI.gv_bl ?_ | refine MI.gv_str ?_ | refine MI.gv_non ?_ | refine MI.gv_ty ?_ | refine MI.gv_glob ?_ | refine MI.gv_bin ?_ | refine MI.gv_neg ?_ | refine MI.gv_not ?_ | refine MI.gv_and ?_ | refine MI.gv_or ?_ | refine MI.gand_one ?_ | refine MI.gand_cons ?_ | refine MI.gor_one ?_ | refine MI.gor_cons ?_ | refine MI.gv_cmp ?_ | refine MI.gv_chain ?_ | refine MI.gv_ife ?_ | refine MI.gv_idx ?_ | refine MI.gv_slice ?_ | refine MI.go_none ?_ | refine MI.go_some ?_ | refine MI.gv_rev ?_ | refine MI.gv_call ?_ | refine MI.gv_callK ?_ | refine MI.gv_bi ?_ | refine MI.gv_comp ?_ | refine MI.gv_pop ?_ | refine MI.gv_append ?_ | refine MI.gv_dct ?_ | refine MI.gt_not ?_ | refine MI.gt_and ?_ | refine MI.gt_or ?_ | refine MI.gandt_one ?_ | refine MI.gandt_cons ?_ | refine MI.gort_one ?_ | refine MI.gort_cons ?_ | refine MI.gt_val ?_ | refine MI.gifs_nil ?_ | refine MI.gifs_cons ?_ | refine MI.gif_true ?_ | refine MI.gif_false ?_ | refine MI.gif_not ?_ | refine MI.gb_add ?_ | refine MI.gb_sub ?_ | refine MI.gm_lt ?_ | refine MI.gm_le ?_ | refine MI.gm_gt ?_ | refine MI.gm_ge ?_ | refine MI.gm_eq ?_ | refine MI.gm_ne ?_ | refine MI.gm_seq ?_ | refine MI.gtr_bl ?_ | refine MI.gtr_int ?_ | refine MI.gbi_int_int ?_ | refine MI.gbi_int_bool ?_ | refine MI.gbi_int_tup ?_ | refine MI.gbi_int_list ?_ | refine MI.gbi_int_dict ?_ | refine MI.gbi_tup_tup ?_ | refine MI.gbi_bl_tup ?_ | refine MI.gbi_bl_list ?_ | refine MI.gbi_bl_dict ?_ | refine MI.gbi_bl_bool ?_ | refine MI.gbi_len_tup ?_ | refine MI.gbi_int1 ?_ | refine MI.gbi_max ?_)
          | with_reducible refine MI.gv_tup ?_
          | with_reducible refine MI.gv_lst ?_
          | with_reducible refine MI.gb_mod (by first | decide | omega) ?_
          | with_reducible refine MI.gb_div (by first | decide | assumption) ?_
          | with_reducible refine MI.gb_mul (by first | decide | assumption) ?_
          | with_reducible refine MI.gb_pow (by decide) ?_
          | with_reducible refine MI.gif_dec_t (by first | assumption | omega | decide) ?_
          | with_reducible refine MI.gif_dec_f (by first | assumption | omega | decide) ?_
          | refine MI.gif_t rfl ?_
          | refine MI.gif_f rfl ?_
          | with_reducible refine MI.grg_of (by omega) (by omega) ?_
          | refine MI.gx_of rfl ?_
          | refine MI.gbi_of rfl ?_
          | refine ⟨_, rfl, ?_⟩
          | refine ⟨_, _, rfl, rfl, ?_⟩
          | refine MI.glc_next rfl ?_
          | refine MI.glc_end rfl ?_
          | refine MI.glf_next rfl ?_
          | refine MI.glf_end rfl ?_
          | refine ⟨Nat.le_of_ble_eq_true rfl, ?_⟩)
        exact h
    · rw [if_neg (fun z => h1 z.1)] at h
      repeat (first
        | with_reducible (first | refine MI.gss_cons ?_ | refine MI.gss_nil ?_ | refine MI.gn_next ?_ | refine MI.gn_ret ?_ | refine MI.gn_brk ?_ | refine MI.gn_cont ?_ | refine MI.gk_next ?_ | refine MI.gk_cont ?_ | refine MI.gk_brk ?_ | refine MI.gk_ret ?_ | refine MI.gf_ret ?_ | refine MI.gf_next ?_ | refine MI.gs_asg ?_ | refine MI.gs_asgT ?_ | refine MI.gs_par ?_ | refine MI.gs_put ?_ | refine MI.gs_if ?_ | refine MI.gs_ret ?_ | refine MI.gs_retN ?_ | refine MI.gs_expr ?_ | refine MI.gs_pass ?_ | refine MI.gs_brk ?_ | refine MI.gs_cont ?_ | refine MI.gs_while ?_ | refine MI.gs_for ?_ | refine MI.ge_of ?_ | refine MI.ga_val ?_ | refine MI.ga_new ?_ | refine MI.gl_nil ?_ | refine MI.gl_cons ?_ | refine MI.gr_nil ?_ | refine MI.gr_cons ?_ | refine MI.gi_rng ?_ | refine MI.gi_of ?_ | refine MI.gv_name ?_ | refine MI.gv_int ?_ | refine MI.gv_bl ?_ | refine MI.gv_str ?_ | refine MI.gv_non ?_ | refine MI.gv_ty ?_ | refine MI.gv_glob ?_ | refine MI.gv_bin ?_ | refine MI.gv_neg ?_ | refine MI.gv_not ?_ | refine MI.gv_and ?_ | refine MI.gv_or ?_ | refine MI.gand_one ?_ | refine MI.gand_cons ?_ | refine MI.gor_one ?_ | refine MI.gor_cons ?_ | refine MI.gv_cmp ?_ | refine MI.gv_chain ?_ | refine MI.gv_ife ?_ | refine MI.gv_idx ?_ | refine MI.gv_slice ?_ | refine MI.go_none ?_ | refine MI.go_some ?_ | refine MI.gv_rev ?_ | refine MI.gv_call ?_ | refine MI.gv_callK ?_ | refine MI.gv_bi ?_ | refine MI.gv_comp ?_ | refine MI.gv_pop ?_ | refine MI.gv_append ?_ | refine MI.gv_dct ?_ | refine MI.gt_not ?_ | refine MI.gt_and ?_ | refine MI.gt_or ?_ | refine MI.gandt_one ?_ | refine MI.gandt_cons ?_ | refine MI.gort_one ?_ | refine MI.gort_cons ?_ | refine MI.gt_val ?_ | refine MI.gifs_nil ?_ | refine MI.gifs_cons ?_ | refine MI.gif_true ?_ | refine MI.gif_false ?_ | refine MI.gif_not ?_ | refine MI.gb_add ?_ | refine MI.gb_sub ?_ | refine MI.gm_lt ?_ | refine MI.gm_le ?_ | refine MI.gm_gt ?_ | refine MI.gm_ge ?_ | refine MI.gm_eq ?_ | refine MI.gm_ne ?_ | refine MI.gm_seq ?_ | refine MI.gtr_bl ?_ | refine MI.gtr_int ?_ | refine MI.gbi_int_int ?_ | refine MI.gbi_int_bool ?_ | refine MI.gbi_int_tup ?_ | refine MI.gbi_int_list ?_ | refine MI.gbi_int_dict ?_ | refine MI.gbi_tup_tup ?_ | refine MI.gbi_bl_tup ?_ | refine MI.gbi_bl_list ?_ | refine MI.gbi_bl_dict ?_ | refine MI.gbi_bl_bool ?_ | refine MI.gbi_len_tup ?_ | refine MI.gbi_int1 ?_ | refine MI.gbi_max ?_)
        | with_reducible refine MI.gv_tup ?_
        | with_reducible refine MI.gv_lst ?_
        | with_reducible refine MI.gb_mod (by first | decide | omega) ?_
        | with_reducible refine MI.gb_div (by first | decide | assumption) ?_
        | with_reducible refine MI.gb_mul (by first | decide | assumption) ?_
        | with_reducible refine MI.gb_pow (by decide) ?_
        | with_reducible refine MI.gif_dec_t (by first | assumption | omega | decide) ?_
        | with_reducible refine MI.gif_dec_f (by first | assumption | omega | decide) ?_
        | refine MI.gif_t rfl ?_
        | refine MI.gif_f rfl ?_
        | with_reducible refine MI.grg_of (by omega) (by omega) ?_
        | refine MI.gx_of rfl ?_
        | refine MI.gbi_of rfl ?_
        | refine ⟨_, rfl, ?_⟩
        | refine ⟨_, _, rfl, rfl, ?_⟩
        | refine MI.glc_next rfl ?_
        | refine MI.glc_end rfl ?_
        | refine MI.glf_next rfl ?_
        | refine MI.glf_end rfl ?_
        | refine ⟨Nat.le_of_ble_eq_true rfl, ?_⟩)
      exact h
theorem p_low4 {k : Nat} {a b c e : Int} (h : Q (rv (lowQ k a b c e)) st) : GC G (d + 1) 4 [.int a, .int b, .int c, .int e, .int (k : Nat)] st Q := by
  refine c_low ?_
  repeat (first
    | with_reducible (first | refine MI.gss_cons ?_ | refine MI.gss_nil ?_ | refine MI.gn_next ?_ | refine MI.gn_ret ?_ | refine MI.gn_brk ?_ | refine MI.gn_cont ?_ | refine MI.gk_next ?_ | refine MI.gk_cont ?_ | refine MI.gk_brk ?_ | refine MI.gk_ret ?_ | refine MI.gf_ret ?_ | refine MI.gf_next ?_ | refine MI.gs_asg ?_ | refine MI.gs_asgT ?_ | refine MI.gs_par ?_ | refine MI.gs_put ?_ | refine MI.gs_if ?_ | refine MI.gs_ret ?_ | refine MI.gs_retN ?_ | refine MI.gs_expr ?_ | refine MI.gs_pass ?_ | refine MI.gs_brk ?_ | refine MI.gs_cont ?_ | refine MI.gs_while ?_ | refine MI.gs_for ?_ | refine MI.ge_of ?_ | refine MI.ga_val ?_ | refine MI.ga_new ?_ | refine MI.gl_nil ?_ | refine MI.gl_cons ?_ | refine MI.gr_nil ?_ | refine MI.gr_cons ?_ | refine MI.gi_rng ?_ | refine MI.gi_of ?_ | refine MI.gv_name ?_ | refine MI.gv_int ?_ | refine MI.gv_bl ?_ | refine MI.gv_str ?_ | refine MI.gv_non ?_ | refine MI.gv_ty ?_ | refine MI.gv_glob ?_ | refine MI.gv_bin ?_ | refine MI.gv_neg ?_ | refine MI.gv_not ?_ | refine MI.gv_and ?_ | refine MI.gv_or ?_ | refine MI.gand_one ?_ | refine MI.gand_cons ?_ | refine MI.gor_one ?_ | refine MI.gor_cons ?_ | refine MI.gv_cmp ?_ | refine MI.gv_chain ?_ | refine MI.gv_ife ?_ | refine MI.gv_idx ?_ | refine MI.gv_slice ?_ | refine MI.go_none ?_ | refine MI.go_some ?_ | refine MI.gv_rev ?_ | refine MI.gv_call ?_ | refine MI.gv_callK ?_ | refine MI.gv_bi ?_ | refine MI.gv_comp ?_ | refine MI.gv_pop ?_ | refine MI.gv_append ?_ | refine MI.gv_dct ?_ | refine MI.gt_not ?_ | refine MI.gt_and ?_ | refine MI.gt_or ?_ | refine MI.gandt_one ?_ | refine MI.gandt_cons ?_ | refine MI.gort_one ?_ | refine MI.gort_cons ?_ | refine MI.gt_val ?_ | refine MI.gifs_nil ?_ | refine MI.gifs_cons ?_ | refine MI.gif_true ?_ | refine MI.gif_false ?_ | refine MI.gif_not ?_ | refine MI.gb_add ?_ | refine MI.gb_sub ?_ | refine MI.gm_lt ?_ | refine MI.gm_le ?_ | refine MI.gm_gt ?_ | refine MI.gm_ge ?_ | refine MI.gm_eq ?_ | refine MI.gm_ne ?_ | refine MI.gm_seq ?_ | refine MI.gtr_bl ?_ | refine MI.gtr_int ?_ | refine MI.gbi_int_int ?_ | refine MI.gbi_int_bool ?_ | refine MI.gbi_int_tup ?_ | refine MI.gbi_int_list ?_ | refine MI.gbi_int_dict ?_ | refine MI.gbi_tup_tup ?_ | refine MI.gbi_bl_tup ?_ | refine MI.gbi_bl_list ?_ | refine MI.gbi_bl_dict ?_ | refine MI.gbi_bl_bool ?_ | refine MI.gbi_len_tup ?_ | refine MI.gbi_int1 ?_ | refine MI.gbi_max ?_)
    | with_reducible refine MI.gv_tup ?_
    | with_reducible refine MI.gv_lst ?_
    | with_reducible refine MI.gb_mod (by first | decide | omega) ?_
    | with_reducible refine MI.gb_div (by first | decide | assumption) ?_
    | with_reducible refine MI.gb_mul (by first | decide | assumption) ?_
    | with_reducible refine MI.gb_pow (by decide) ?_
    | with_reducible refine MI.gif_dec_t (by first | assumption | omega | decide) ?_
    | with_reducible refine MI.gif_dec_f (by first | assumption | omega | decide) ?_
    | refine MI.gif_t rfl ?_
    | refine MI.gif_f rfl ?_
    | with_reducible refine MI.grg_of (by omega) (by omega) ?_
    | refine MI.gx_of rfl ?_
    | refine MI.gbi_of rfl ?_
    | refine ⟨_, rfl, ?_⟩
    | refine ⟨_, _, rfl, rfl, ?_⟩
    | refine MI.glc_next rfl ?_
    | refine MI.glc_end rfl ?_
    | refine MI.glf_next rfl ?_
    | refine MI.glf_end rfl ?_
    | refine ⟨Nat.le_of_ble_eq_true rfl, ?_⟩)
  refine w_low4 ?_
  repeat (first
    | with_reducible (first | refine MI.gss_cons ?_ | refine MI.gss_nil ?_ | refine MI.gn_next ?_ | refine MI.gn_ret ?_ | refine MI.gn_brk ?_ | refine MI.gn_cont ?_ | refine MI.gk_next ?_ | refine MI.gk_cont ?_ | refine MI.gk_brk ?_ | refine MI.gk_ret ?_ | refine MI.gf_ret ?_ | refine MI.gf_next ?_ | refine MI.gs_asg ?_ | refine MI.gs_asgT ?_ | refine MI.gs_par ?_ | refine MI.gs_put ?_ | refine MI.gs_if ?_ | refine MI.gs_ret ?_ | refine MI.gs_retN ?_ | refine MI.gs_expr ?_ | refine MI.gs_pass ?_ | refine MI.gs_brk ?_ | refine MI.gs_cont ?_ | refine MI.gs_while ?_ | refine MI.gs_for ?_ | refine MI.ge_of ?_ | refine MI.ga_val ?_ | refine MI.ga_new ?_ | refine MI.gl_nil ?_ | refine MI.gl_cons ?_ | refine MI.gr_nil ?_ | refine MI.gr_cons ?_ | refine MI.gi_rng ?_ | refine MI.gi_of ?_ | refine MI.gv_name ?_ | refine MI.gv_int ?_ | refine MI.gv_bl ?_ | refine MI.gv_str ?_ | refine MI.gv_non ?_ | refine MI.gv_ty ?_ | refine MI.gv_glob ?_ | refine MI.gv_bin ?_ | refine MI.gv_neg ?_ | refine MI.gv_not ?_ | refine MI.gv_and ?_ | refine MI.gv_or ?_ | refine MI.gand_one ?_ | refine MI.gand_cons ?_ | refine MI.gor_one ?_ | refine MI.gor_cons ?_ | refine MI.gv_cmp ?_ | refine MI.gv_chain ?_ | refine MI.gv_ife ?_ | refine MI.gv_idx ?_ | refine MI.gv_slice ?_ | refine MI.go_none ?_ | refine MI.go_some ?_ | refine MI.gv_rev ?_ | refine MI.gv_call ?_ | refine MI.gv_callK ?_ | refine MI.gv_bi ?_ | refine MI.gv_comp ?_ | refine MI.gv_pop ?_ | refine MI.gv_append ?_ | refine MI.gv_dct ?_ | refine MI.gt_not ?_ | refine MI.gt_and ?_ | refine MI.gt_or ?_ | refine MI.gandt_one ?_ | refine MI.gandt_cons ?_ | refine MI.gort_one ?_ | refine MI.gort_cons ?_ | refine MI.gt_val ?_ | refine MI.gifs_nil ?_ | refine MI.gifs_cons ?_ | refine MI.gif_true ?_ | refine MI.gif_false ?_ | refine MI.gif_not ?_ | refine MI.gb_add ?_ | refine MI.gb_sub ?_ | refine MI.gm_lt ?_ | refine MI.gm_le ?_ | refine MI.gm_gt ?_ | refine MI.gm_ge ?_ | refine MI.gm_eq ?_ | refine MI.gm_ne ?_ | refine MI.gm_seq ?_ | refine MI.gtr_bl ?_ | refine MI.gtr_int ?_ | refine MI.gbi_int_int ?_ | refine MI.gbi_int_bool ?_ | refine MI.gbi_int_tup ?_ | refine MI.gbi_int_list ?_ | refine MI.gbi_int_dict ?_ | refine MI.gbi_tup_tup ?_ | refine MI.gbi_bl_tup ?_ | refine MI.gbi_bl_list ?_ | refine MI.gbi_bl_dict ?_ | refine MI.gbi_bl_bool ?_ | refine MI.gbi_len_tup ?_ | refine MI.gbi_int1 ?_ | refine MI.gbi_max ?_)
    | with_reducible refine MI.gv_tup ?_
    | with_reducible refine MI.gv_lst ?_
    | with_reducible refine MI.gb_mod (by first | decide | omega) ?_
    | with_reducible refine MI.gb_div (by first | decide | assumption) ?_
    | with_reducible refine MI.gb_mul (by first | decide | assumption) ?_
    | with_reducible refine MI.gb_pow (by decide) ?_
    | with_reducible refine MI.gif_dec_t (by first | assumption | omega | decide) ?_
    | with_reducible refine MI.gif_dec_f (by first | assumption | omega | decide) ?_
    | refine MI.gif_t rfl ?_
    | refine MI.gif_f rfl ?_
    | with_reducible refine MI.grg_of (by omega) (by omega) ?_
    | refine MI.gx_of rfl ?_
    | refine MI.gbi_of rfl ?_
    | refine ⟨_, rfl, ?_⟩
    | refine ⟨_, _, rfl, rfl, ?_⟩
    | refine MI.glc_next rfl ?_
    | refine MI.glc_end rfl ?_
    | refine MI.glf_next rfl ?_
    | refine MI.glf_end rfl ?_
    | refine ⟨Nat.le_of_ble_eq_true rfl, ?_⟩)
  exact h
theorem w_low24 {Q : Out → Store → Prop} : ∀ {k : Nat} {a b c e : Int}, Q (.next [some (.int (lowQ k a b c e).a), some (.int (lowQ k a b c e).b), some (.int (lowQ k a b c e).c), some (.int (lowQ k a b c e).d), some (.int ((lowQ k a b c e).k : Nat))]) st → GLw G d (.tand [(.tval (.cmp .Gt (.var 4) (.lit (.int 0)))), (.tval (.cmp .Eq (.bin .Mod (.bi .int1 [(.bin .Sub (.var 0) (.var 2))]) (.lit (.int 2))) (.lit (.int 0)))), (.tval (.cmp .Eq (.bin .Mod (.bi .int1 [(.bin .Sub (.var 1) (.var 3))]) (.lit (.int 2))) (.lit (.int 0))))]) [(.par [0, 1, 2, 3, 4] [(.bin .FloorDiv (.bin .Sub (.var 1) (.var 3)) (.lit (.int 2))), (.bin .FloorDiv (.bin .Add (.var 0) (.var 2)) (.lit (.int 2))), (.bin .FloorDiv (.bin .Add (.var 1) (.var 3)) (.lit (.int 2))), (.bin .FloorDiv (.bin .Sub (.var 2) (.var 0)) (.lit (.int 2))), (.bin .Sub (.var 4) (.lit (.int 1)))])] [some (.int a), some (.int b), some (.int c), some (.int e), some (.int (k : Nat))] st Q
  | 0, a, b, c, e, h => by
    refine glw_turn ?_
    repeat (first
      | with_reducible (first | refine MI.gss_cons ?_ | refine MI.gss_nil ?_ | refine MI.gn_next ?_ | refine MI.gn_ret ?_ | refine MI.gn_brk ?_ | refine MI.gn_cont ?_ | refine MI.gk_next ?_ | refine MI.gk_cont ?_ | refine MI.gk_brk ?_ | refine MI.gk_ret ?_ | refine MI.gf_ret ?_ | refine MI.gf_next ?_ | refine MI.gs_asg ?_ | refine MI.gs_asgT ?_ | refine MI.gs_par ?_ | refine MI.gs_put ?_ | refine MI.gs_if ?_ | refine MI.gs_ret ?_ | refine MI.gs_retN ?_ | refine MI.gs_expr ?_ | refine MI.gs_pass ?_ | refine MI.gs_brk ?_ | refine MI.gs_cont ?_ | refine MI.gs_while ?_ | refine MI.gs_for ?_ | refine MI.ge_of ?_ | refine MI.ga_val ?_ | refine MI.ga_new ?_ | refine MI.gl_nil ?_ | refine MI.gl_cons ?_ | refine MI.gr_nil ?_ | refine MI.gr_cons ?_ | refine MI.gi_rng ?_ | refine MI.gi_of ?_ | refine MI.gv_name ?_ | refine MI.gv_int ?_ | refine MI.gv_bl ?_ | refine MI.gv_str ?_ | refine MI.gv_non ?_ | refine MI.gv_ty ?_ | refine MI.gv_glob ?_ | refine MI.gv_bin ?_ | refine MI.gv_neg ?_ | refine MI.gv_not ?_ | refine MI.gv_and ?_ | refine MI.gv_or ?_ | refine MI.gand_one ?_ | refine MI.gand_cons ?_ | refine MI.gor_one ?_ | refine MI.gor_cons ?_ | refine MI.gv_cmp ?_ | refine MI.gv_chain ?_ | refine MI.gv_ife ?_ | refine MI.gv_idx ?_ | refine MI.gv_slice ?_ | refine MI.go_none ?_ | refine MI.go_some ?_ | refine MI.gv_rev ?_ | refine MI.gv_call ?_ | refine MI.gv_callK ?_ | refine MI.gv_bi ?_ | refine MI.gv_comp ?_ | refine MI.gv_pop ?_ | refine MI.gv_append ?_ | refine MI.gv_dct ?_ | refine MI.gt_not ?_ | refine MI.gt_and ?_ | refine MI.gt_or ?_ | refine MI.gandt_one ?_ | refine MI.gandt_cons ?_ | refine MI.gort_one ?_ | refine MI.gort_cons ?_ | refine MI.gt_val ?_ | refine MI.gifs_nil ?_ | refine MI.gifs_cons ?_ | refine MI.gif_true ?_ | refine MI.gif_false ?_ | refine MI.gif_not ?_ | refine MI.gb_add ?_ | refine MI.gb_sub ?_ | refine MI.gm_lt ?_ | refine MI.gm_le ?_ | refine MI.gm_gt ?_ | refine MI.gm_ge ?_ | refine MI.gm_eq ?_ | refine MI.gm_ne ?_ | refine MI.gm_seq ?_ | refine MI.gtr_bl ?_ | refine MI.gtr_int ?_ | refine MI.gbi_int_int ?_ | refine MI.gbi_int_bool ?_ | refine MI.gbi_int_tup ?_ | refine MI.gbi_int_list ?_ | refine MI.gbi_int_dict ?_ | refine MI.gbi_tup_tup ?_ | refine MI.gbi_bl_tup ?_ | refine MI.gbi_bl_list ?_ | refine MI.gbi_bl_dict ?_ | refine MI.gbi_bl_bool ?_ | refine MI.gbi_len_tup ?_ | refine MI.gbi_int1 ?_ | refine MI.gbi_max ?_)
      | with_reducible refine MI.gv_tup ?_
      | with_reducible refine MI.gv_lst ?_
      | with_reducible refine MI.gb_mod (by first | decide | omega) ?_
      | with_reducible refine MI.gb_div (by first | decide | assumption) ?_
      | with_reducible refine MI.gb_mul (by first | decide | assumption) ?_
      | with_reducible refine MI.gb_pow (by decide) ?_
      | with_reducible refine MI.gif_dec_t (by first | assumption | omega | decide) ?_
      | with_reducible refine MI.gif_dec_f (by first | assumption | omega | decide) ?_
      | refine MI.gif_t rfl ?_
      | refine MI.gif_f rfl ?_
      | with_reducible refine MI.grg_of (by omega) (by omega) ?_
      | refine MI.gx_of rfl ?_
      | refine MI.gbi_of rfl ?_
      | refine ⟨_, rfl, ?_⟩
      | refine ⟨_, _, rfl, rfl, ?_⟩
      | refine MI.glc_next rfl ?_
      | refine MI.glc_end rfl ?_
      | refine MI.glf_next rfl ?_
      | refine MI.glf_end rfl ?_
      | refine ⟨Nat.le_of_ble_eq_true rfl, ?_⟩)
    exact h
  | k + 1, a, b, c, e, h => by
    refine glw_turn ?_
    rw [lowQ_succ] at h
    by_cases h1 : (a - c) % 2 = 0
    · by_cases h2 : (b - e) % 2 = 0
      · rw [if_pos ⟨h1, h2⟩] at h
        repeat (first
          | with_reducible (first | refine MI.gss_cons ?_ | refine MI.gss_nil ?_ | refine MI.gn_next ?_ | refine MI.gn_ret ?_ | refine MI.gn_brk ?_ | refine MI.gn_cont ?_ | refine MI.gk_next ?_ | refine MI.gk_cont ?_ | refine MI.gk_brk ?_ | refine MI.gk_ret ?_ | refine MI.gf_ret ?_ | refine MI.gf_next ?_ | refine MI.gs_asg ?_ | refine MI.gs_asgT ?_ | refine MI.gs_par ?_ | refine MI.gs_put ?_ | refine MI.gs_if ?_ | refine MI.gs_ret ?_ | refine MI.gs_retN ?_ | refine MI.gs_expr ?_ | refine MI.gs_pass ?_ | refine MI.gs_brk ?_ | refine MI.gs_cont ?_ | refine MI.gs_while ?_ | refine MI.gs_for ?_ | refine MI.ge_of ?_ | refine MI.ga_val ?_ | refine MI.ga_new ?_ | refine MI.gl_nil ?_ | refine MI.gl_cons ?_ | refine MI.gr_nil ?_ | refine MI.gr_cons ?_ | refine MI.gi_rng ?_ | refine MI.gi_of ?_ | refine MI.gv_name ?_ | refine MI.gv_int ?_ | refine MI.gv_bl ?_ | refine MI.gv_str ?_ | refine MI.gv_non ?_ | refine MI.gv_ty ?_ | refine MI.gv_glob ?_ | refine MI.gv_bin ?_ | refine MI.gv_neg ?_ | refine MI.gv_not ?_ | refine MI.gv_and ?_ | refine MI.gv_or ?_ | refine MI.gand_one ?_ | refine MI.gand_cons ?_ | refine MI.gor_one ?_ | refine MI.gor_cons ?_ | refine MI.gv_cmp ?_ | refine MI.gv_chain ?_ | refine MI.gv_ife ?_ | refine MI.gv_idx ?_ | refine MI.gv_slice ?_ | refine MI.go_none ?_ | refine MI.go_some ?_ | refine MI.gv_rev ?_ | refine MI.gv_call ?_ | refine MI.gv_callK ?_ | refine MI.gv_bi ?_ | refine MI.gv_comp ?_ | refine MI.gv_pop ?_ | refine MI.gv_append ?_ | refine MI.gv_dct ?_ | refine MI.gt_not ?_ | refine MI.gt_and ?_ | refine MI.gt_or ?_ | refine MI.gandt_one ?_ | refine MI.gandt_cons ?_ | refine MI.gort_one ?_ | refine MI.gort_cons ?_ | refine MI.gt_val ?_ | refine MI.gifs_nil ?_ | refine MI.gifs_cons ?_ | refine MI.gif_true ?_ | refine MI.gif_false ?_ | refine MI.gif_not ?_ | refine MI.gb_add ?_ | refine MI.gb_sub ?_ | refine MI.gm_lt ?_ | refine MI.gm_le ?_ | refine MI.gm_gt ?_ | refine MI.gm_ge ?_ | refine MI.gm_eq ?_ | refine MI.gm_ne ?_ | refine MI.gm_seq ?_ | refine MI.gtr_bl ?_ | refine MI.gtr_int ?_ | refine MI.gbi_int_int ?_ | refine MI.gbi_int_bool ?_ | refine MI.gbi_int_tup ?_ | refine MI.gbi_int_list ?_ | refine MI.gbi_int_dict ?_ | refine MI.gbi_tup_tup ?_ | refine MI.gbi_bl_tup ?_ | refine MI.gbi_bl_list ?_ | refine MI.gbi_bl_dict ?_ | refine MI.gbi_bl_bool ?_ | refine MI.gbi_len_tup ?_ | refine MI.gbi_int1 ?_ | refine MI.gbi_max ?_)
          | with_reducible refine MI.gv_tup ?_
          | with_reducible refine MI.gv_lst ?_
          | with_reducible refine MI.gb_mod (by first | decide | omega) ?_
          | with_reducible refine MI.gb_div (by first | decide | assumption) ?_
          | with_reducible refine MI.gb_mul (by first | decide | assumption) ?_
          | with_reducible refine MI.gb_pow (by decide) ?_
          | with_reducible refine MI.gif_dec_t (by first | assumption | omega | decide) ?_
          | with_reducible refine MI.gif_dec_f (by first | assumption | omega | decide) ?_
          | refine MI.gif_t rfl ?_
          | refine MI.gif_f rfl ?_
          | with_reducible refine MI.grg_of (by omega) (by omega) ?_
          | refine MI.gx_of rfl ?_
          | refine MI.gbi_of rfl ?_
          | refine ⟨_, rfl, ?_⟩
          | refine ⟨_, _, rfl, rfl, ?_⟩
          | refine MI.glc_next rfl ?_
          | refine MI.glc_end rfl ?_
          | refine MI.glf_next rfl ?_
          | refine MI.glf_end rfl ?_
          | refine ⟨Nat.le_of_ble_eq_true rfl, ?_⟩)
        rw [show ((k + 1 : Nat) : Int) - 1 = (k : Nat) by omega]
        exact w_low24 h
      · rw [if_neg (fun z => h2 z.2)] at h
        repeat (first
          | with_reducible (first | refine MI.gss_cons ?_ | refine MI.gss_nil ?_ | refine MI.gn_next ?_ | refine MI.gn_ret ?_ | refine MI.gn_brk ?_ | refine MI.gn_cont ?_ | refine MI.gk_next ?_ | refine MI.gk_cont ?_ | refine MI.gk_brk ?_ | refine MI.gk_ret ?_ | refine MI.gf_ret ?_ | refine MI.gf_next ?_ | refine MI.gs_asg ?_ | refine MI.gs_asgT ?_ | refine MI.gs_par ?_ | refine MI.gs_put ?_ | refine MI.gs_if ?_ | refine MI.gs_ret ?_ | refine MI.gs_retN ?_ | refine MI.gs_expr ?_ | refine MI.gs_pass ?_ | refine MI.gs_brk ?_ | refine MI.gs_cont ?_ | refine MI.gs_while ?_ | refine MI.gs_for ?_ | refine MI.ge_of ?_ | refine MI.ga_val ?_ | refine MI.ga_new ?_ | refine MI.gl_nil ?_ | refine MI.gl_cons ?_ | refine MI.gr_nil ?_ | refine MI.gr_cons ?_ | refine MI.gi_rng ?_ | refine MI.gi_of ?_ | refine MI.gv_name ?_ | refine MI.gv_int ?_ | refine MI.gv_bl ?_ | refine MI.gv_str ?_ | refine MI.gv_non ?_ | refine MI.gv_ty ?_ | refine MI.gv_glob ?_ | refine MI.gv_bin ?_ | refine MI.gv_neg ?_ | refine MI.gv_not ?_ | refine MI.gv_and ?_ | refine MI.gv_or ?_ | refine MI.gand_one ?_ | refine MI.gand_cons ?_ | refine MI.gor_one ?_ | refine MI.gor_cons ?_ | refine MI.gv_cmp ?_ | refine MI.gv_chain ?_ | refine MI.gv_ife ?_ | refine MI.gv_idx ?_ | refine MI.gv_slice ?_ | refine MI.go_none ?_ | refine MI.go_some ?_ | refine MI.gv_rev ?_ | refine MI.gv_call ?_ | refine MI.gv_callK ?_ | refine MI.gv_bi ?_ | refine MI.gv_comp ?_ | refine MI.gv_pop ?_ | refine MI.gv_append ?_ | refine MI.gv_dct ?_ | refine MI.gt_not ?_ | refine MI.gt_and ?_ | refine MI.gt_or ?_ | refine MI.gandt_one ?_ | refine MI.gandt_cons ?_ | refine MI.gort_one ?_ | refine MI.gort_cons ?_ | refine MI.gt_val ?_ | refine MI.gifs_nil ?_ | refine MI.gifs_cons ?_ | refine MI.gif_true ?_ | refine MI.gif_false ?_ | refine MI.gif_not ?_ | refine MI.gb_add ?_ | refine MI.gb_sub ?_ | refine MI.gm_lt ?_ | refine MI.gm_le ?_ | refine MI.gm_gt ?_ | refine MI.gm_ge ?_ | refine MI.gm_eq ?_ | refine MI.gm_ne ?_ | refine MI.gm_seq ?_ | refine MI.gtr_bl ?_ | refine MI.gtr_int ?_ | refine MI.gbi_int_int ?_ | refine MI.gbi_int_bool ?_ | refine MI.gbi_int_tup ?_ | refine MI.gbi_int_list ?_ | refine MI.gbi_int_dict ?_ | refine MI.gbi_tup_tup ?_ | refine MI.gbi_bl_tup ?_ | refine MI.gbi_bl_list ?_ | refine MI.gbi_bl_dict ?_ | refine MI.gbi_bl_bool ?_ | refine MI.gbi_len_tup ?_ | refine MI.gbi_int1 ?_ | refine MI.gbi_max ?_)
          | with_reducible refine MI.gv_tup ?_
          | with_reducible refine MI.gv_lst ?_
          | with_reducible refine MI.gb_mod (by first | decide | omega) ?_
          | with_reducible refine MI.gb_div (by first | decide | assumption) ?_
          | with_reducible refine MI.gb_mul (by first | decide | assumption) ?_
          | with_reducible refine MI.gb_pow (by decide) ?_
          | with_reducible refine MI.gif_dec_t (by first | assumption | omega | decide) ?_
          | with_reducible refine MI.gif_dec_f (by first | assumption | omega | decide) ?_
          | refine MI.gif_t rfl ?_
          | refine MI.gif_f rfl ?_
          | with_reducible refine MI.grg_of (by omega) (by omega) ?_
          | refine MI.gx_of rfl ?_
          | refine MI.gbi_of rfl ?_
          | refine ⟨_, rfl, ?_⟩
          | refine ⟨_, _, rfl, rfl, ?_⟩
          | refine MI.glc_next rfl ?_
          | refine MI.glc_end rfl ?_
          | refine MI.glf_next rfl ?_
          | refine MI.glf_end rfl ?_
          | refine ⟨Nat.le_of_ble_eq_true rfl, ?_⟩)
        exact h
    · rw [if_neg (fun z => h1 z.1)] at h
      repeat (first
        | with_reducible (first | refine MI.gss_cons ?_ | refine MI.gss_nil ?_ | refine MI.gn_next ?_ | refine MI.gn_ret ?_ | refine MI.gn_brk ?_ | refine MI.gn_cont ?_ | refine MI.gk_next ?_ | refine MI.gk_cont ?_ | refine MI.gk_brk ?_ | refine MI.gk_ret ?_ | refine MI.gf_ret ?_ | refine MI.gf_next ?_ | refine MI.gs_asg ?_ | refine MI.gs_asgT ?_ | refine MI.gs_par ?_ | refine MI.gs_put ?_ | refine MI.gs_if ?_ | refine MI.gs_ret ?_ | refine MI.gs_retN ?_ | refine MI.gs_expr ?_ | refine MI.gs_pass ?_ | refine MI.gs_brk ?_ | refine MI.gs_cont ?_ | refine MI.gs_while ?_ | refine MI.gs_for ?_ | refine MI.ge_of ?_ | refine MI.ga_val ?_ | refine MI.ga_new ?_ | refine MI.gl_nil ?_ | refine MI.gl_cons ?_ | refine MI.gr_nil ?_ | refine MI.gr_cons ?_ | refine MI.gi_rng ?_ | refine MI.gi_of ?_ | refine MI.gv_name ?_ | refine MI.gv_int ?_ | refine MI.gv_bl ?_ | refine MI.gv_str ?_ | refine MI.gv_non ?_ | refine MI.gv_ty ?_ | refine MI.gv_glob ?_ | refine MI.gv_bin ?_ | refine MI.gv_neg ?_ | refine MI.gv_not ?_ | refine MI.gv_and ?_ | refine MI.gv_or ?_ | refine MI.gand_one ?_ | refine MI.gand_cons ?_ | refine MI.gor_one ?_ | refine MI.gor_cons ?_ | refine MI.gv_cmp ?_ | refine MI.gv_chain ?_ | refine MI.gv_ife ?_ | refine MI.gv_idx ?_ | refine MI.gv_slice ?_ | refine MI.go_none ?_ | refine MI.go_some ?_ | refine MI.gv_rev ?_ | refine MI.gv_call ?_ | refine MI.gv_callK ?_ | refine MI.gv_bi ?_ | refine MI.gv_comp ?_ | refine MI.gv_pop ?_ | refine MI.gv_append ?_ | refine MI.gv_dct ?_ | refine MI.gt_not ?_ | refine MI.gt_and ?_ | refine MI.gt_or ?_ | refine MI.gandt_one ?_ | refine MI.gandt_cons ?_ | refine MI.gort_one ?_ | refine MI.gort_cons ?_ | refine MI.gt_val ?_ | refine MI.gifs_nil ?_ | refine MI.gifs_cons ?_ | refine MI.gif_true ?_ | refine MI.gif_false ?_ | refine MI.gif_not ?_ | refine MI.gb_add ?_ | refine MI.gb_sub ?_ | refine MI.gm_lt ?_ | refine MI.gm_le ?_ | refine MI.gm_gt ?_ | refine MI.gm_ge ?_ | refine MI.gm_eq ?_ | refine MI.gm_ne ?_ | refine MI.gm_seq ?_ | refine MI.gtr_bl ?_ | refine MI.gtr_int ?_ | refine MI.gbi_int_int ?_ | refine MI.gbi_int_bool ?_ | refine MI.gbi_int_tup ?_ | refine MI.gbi_int_list ?_ | refine MI.gbi_int_dict ?_ | refine MI.gbi_tup_tup ?_ | refine MI.gbi_bl_tup ?_ | refine MI.gbi_bl_list ?_ | refine MI.gbi_bl_dict ?_ | refine MI.gbi_bl_bool ?_ | refine MI.gbi_len_tup ?_ | refine MI.gbi_int1 ?_ | refine MI.gbi_max ?_)
        | with_reducible refine MI.gv_tup ?_
        | with_reducible refine MI.gv_lst ?_
        | with_reducible refine MI.gb_mod (by first | decide | omega) ?_
        | with_reducible refine MI.gb_div (by first | decide | assumption) ?_
        | with_reducible refine MI.gb_mul (by first | decide | assumption) ?_
        | with_reducible refine MI.gb_pow (by decide) ?_
        | with_reducible refine MI.gif_dec_t (by first | assumption | omega | decide) ?_
        | with_reducible refine MI.gif_dec_f (by first | assumption | omega | decide) ?_
        | refine MI.gif_t rfl ?_
        | refine MI.gif_f rfl ?_
        | with_reducible refine MI.grg_of (by omega) (by omega) ?_
        | refine MI.gx_of rfl ?_
        | refine MI.gbi_of rfl ?_
        | refine ⟨_, rfl, ?_⟩
        | refine ⟨_, _, rfl, rfl, ?_⟩
        | refine MI.glc_next rfl ?_
        | refine MI.glc_end rfl ?_
        | refine MI.glf_next rfl ?_
        | refine MI.glf_end rfl ?_
        | refine ⟨Nat.le_of_ble_eq_true rfl, ?_⟩)
      exact h
theorem p_low24 {k : Nat} {a b c e : Int} (h : Q (rv (lowQ k a b c e)) st) : GC G (d + 1) 24 [.int a, .int b, .int c, .int e, .int (k : Nat)] st Q := by
  refine c_law_low ?_
  repeat (first
    | with_reducible (first | refine MI.gss_cons ?_ | refine MI.gss_nil ?_ | refine MI.gn_next ?_ | refine MI.gn_ret ?_ | refine MI.gn_brk ?_ | refine MI.gn_cont ?_ | refine MI.gk_next ?_ | refine MI.gk_cont ?_ | refine MI.gk_brk ?_ | refine MI.gk_ret ?_ | refine MI.gf_ret ?_ | refine MI.gf_next ?_ | refine MI.gs_asg ?_ | refine MI.gs_asgT ?_ | refine MI.gs_par ?_ | refine MI.gs_put ?_ | refine MI.gs_if ?_ | refine MI.gs_ret ?_ | refine MI.gs_retN ?_ | refine MI.gs_expr ?_ | refine MI.gs_pass ?_ | refine MI.gs_brk ?_ | refine MI.gs_cont ?_ | refine MI.gs_while ?_ | refine MI.gs_for ?_ | refine MI.ge_of ?_ | refine MI.ga_val ?_ | refine MI.ga_new ?_ | refine MI.gl_nil ?_ | refine MI.gl_cons ?_ | refine MI.gr_nil ?_ | refine MI.gr_cons ?_ | refine MI.gi_rng ?_ | refine MI.gi_of ?_ | refine MI.gv_name ?_ | refine MI.gv_int ?_ | refine MI.gv_bl ?_ | refine MI.gv_str ?_ | refine MI.gv_non ?_ | refine MI.gv_ty ?_ | refine MI.gv_glob ?_ | refine MI.gv_bin ?_ | refine MI.gv_neg ?_ | refine MI.gv_not ?_ | refine MI.gv_and ?_ | refine MI.gv_or ?_ | refine MI.gand_one ?_ | refine MI.gand_cons ?_ | refine MI.gor_one ?_ | refine MI.gor_cons ?_ | refine MI.gv_cmp ?_ | refine MI.gv_chain ?_ | refine MI.gv_ife ?_ | refine MI.gv_idx ?_ | refine MI.gv_slice ?_ | refine MI.go_none ?_ | refine MI.go_some ?_ | refine MI.gv_rev ?_ | refine MI.gv_call ?_ | refine MI.gv_callK ?_ | refine MI.gv_bi ?_ | refine MI.gv_comp ?_ | refine MI.gv_pop ?_ | refine MI.gv_append ?_ | refine MI.gv_dct ?_ | refine MI.gt_not ?_ | refine MI.gt_and ?_ | refine MI.gt_or ?_ | refine MI.gandt_one ?_ | refine MI.gandt_cons ?_ | refine MI.gort_one ?_ | refine MI.gort_cons ?_ | refine MI.gt_val ?_ | refine MI.gifs_nil ?_ | refine MI.gifs_cons ?_ | refine MI.gif_true ?_ | refine MI.gif_false ?_ | refine MI.gif_not ?_ | refine MI.gb_add ?_ | refine MI.gb_sub ?_ | refine MI.gm_lt ?_ | refine MI.gm_le ?_ | refine MI.gm_gt ?_ | refine MI.gm_ge ?_ | refine MI.gm_eq ?_ | refine MI.gm_ne ?_ | refine MI.gm_seq ?_ | refine MI.gtr_bl ?_ | refine MI.gtr_int ?_ | refine MI.gbi_int_int ?_ | refine MI.gbi_int_bool ?_ | refine MI.gbi_int_tup ?_ | refine MI.gbi_int_list ?_ | refine MI.gbi_int_dict ?_ | refine MI.gbi_tup_tup ?_ | refine MI.gbi_bl_tup ?_ | refine MI.gbi_bl_list ?_ | refine MI.gbi_bl_dict ?_ | refine MI.gbi_bl_bool ?_ | refine MI.gbi_len_tup ?_ | refine MI.gbi_int1 ?_ | refine MI.gbi_max ?_)
    | with_reducible refine MI.gv_tup ?_
    | with_reducible refine MI.gv_lst ?_
    | with_reducible refine MI.gb_mod (by first | decide | omega) ?_
    | with_reducible refine MI.gb_div (by first | decide | assumption) ?_
    | with_reducible refine MI.gb_mul (by first | decide | assumption) ?_
    | with_reducible refine MI.gb_pow (by decide) ?_
    | with_reducible refine MI.gif_dec_t (by first | assumption | omega | decide) ?_
    | with_reducible refine MI.gif_dec_f (by first | assumption | omega | decide) ?_
    | refine MI.gif_t rfl ?_
    | refine MI.gif_f rfl ?_
    | with_reducible refine MI.grg_of (by omega) (by omega) ?_
    | refine MI.gx_of rfl ?_
    | refine MI.gbi_of rfl ?_
    | refine ⟨_, rfl, ?_⟩
    | refine ⟨_, _, rfl, rfl, ?_⟩
    | refine MI.glc_next rfl ?_
    | refine MI.glc_end rfl ?_
    | refine MI.glf_next rfl ?_
    | refine MI.glf_end rfl ?_
    | refine ⟨Nat.le_of_ble_eq_true rfl, ?_⟩)
  refine w_low24 ?_
  repeat (first
    | with_reducible (first | refine MI.gss_cons ?_ | refine MI.gss_nil ?_ | refine MI.gn_next ?_ | refine MI.gn_ret ?_ | refine MI.gn_brk ?_ | refine MI.gn_cont ?_ | refine MI.gk_next ?_ | refine MI.gk_cont ?_ | refine MI.gk_brk ?_ | refine MI.gk_ret ?_ | refine MI.gf_ret ?_ | refine MI.gf_next ?_ | refine MI.gs_asg ?_ | refine MI.gs_asgT ?_ | refine MI.gs_par ?_ | refine MI.gs_put ?_ | refine MI.gs_if ?_ | refine MI.gs_ret ?_ | refine MI.gs_retN ?_ | refine MI.gs_expr ?_ | refine MI.gs_pass ?_ | refine MI.gs_brk ?_ | refine MI.gs_cont ?_ | refine MI.gs_while ?_ | refine MI.gs_for ?_ | refine MI.ge_of ?_ | refine MI.ga_val ?_ | refine MI.ga_new ?_ | refine MI.gl_nil ?_ | refine MI.gl_cons ?_ | refine MI.gr_nil ?_ | refine MI.gr_cons ?_ | refine MI.gi_rng ?_ | refine MI.gi_of ?_ | refine MI.gv_name ?_ | refine MI.gv_int ?_ | refine MI.gv_bl ?_ | refine MI.gv_str ?_ | refine MI.gv_non ?_ | refine MI.gv_ty ?_ | refine MI.gv_glob ?_ | refine MI.gv_bin ?_ | refine MI.gv_neg ?_ | refine MI.gv_not ?_ | refine MI.gv_and ?_ | refine MI.gv_or ?_ | refine MI.gand_one ?_ | refine MI.gand_cons ?_ | refine MI.gor_one ?_ | refine MI.gor_cons ?_ | refine MI.gv_cmp ?_ | refine MI.gv_chain ?_ | refine MI.gv_ife ?_ | refine MI.gv_idx ?_ | refine MI.gv_slice ?_ | refine MI.go_none ?_ | refine MI.go_some ?_ | refine MI.gv_rev ?_ | refine MI.gv_call ?_ | refine MI.gv_callK ?_ | refine MI.gv_bi ?_ | refine MI.gv_comp ?_ | refine MI.gv_pop ?_ | refine MI.gv_append ?_ | refine MI.gv_dct ?_ | refine MI.gt_not ?_ | refine MI.gt_and ?_ | refine MI.gt_or ?_ | refine MI.gandt_one ?_ | refine MI.gandt_cons ?_ | refine MI.gort_one ?_ | refine MI.gort_cons ?_ | refine MI.gt_val ?_ | refine MI.gifs_nil ?_ | refine MI.gifs_cons ?_ | refine MI.gif_true ?_ | refine MI.gif_false ?_ | refine MI.gif_not ?_ | refine MI.gb_add ?_ | refine MI.gb_sub ?_ | refine MI.gm_lt ?_ | refine MI.gm_le ?_ | refine MI.gm_gt ?_ | refine MI.gm_ge ?_ | refine MI.gm_eq ?_ | refine MI.gm_ne ?_ | refine MI.gm_seq ?_ | refine MI.gtr_bl ?_ | refine MI.gtr_int ?_ | refine MI.gbi_int_int ?_ | refine MI.gbi_int_bool ?_ | refine MI.gbi_int_tup ?_ | refine MI.gbi_int_list ?_ | refine MI.gbi_int_dict ?_ | refine MI.gbi_tup_tup ?_ | refine MI.gbi_bl_tup ?_ | refine MI.gbi_bl_list ?_ | refine MI.gbi_bl_dict ?_ | refine MI.gbi_bl_bool ?_ | refine MI.gbi_len_tup ?_ | refine MI.gbi_int1 ?_ | refine MI.gbi_max ?_)
    | with_reducible refine MI.gv_tup ?_
    | with_reducible refine MI.gv_lst ?_
    | with_reducible refine MI.gb_mod (by first | decide | omega) ?_
    | with_reducible refine MI.gb_div (by first | decide | assumption) ?_
    | with_reducible refine MI.gb_mul (by first | decide | assumption) ?_
    | with_reducible refine MI.gb_pow (by decide) ?_
    | with_reducible refine MI.gif_dec_t (by first | assumption | omega | decide) ?_
    | with_reducible refine MI.gif_dec_f (by first | assumption | omega | decide) ?_
    | refine MI.gif_t rfl ?_
    | refine MI.gif_f rfl ?_
    | with_reducible refine MI.grg_of (by omega) (by omega) ?_
    | refine MI.gx_of rfl ?_
    | refine MI.gbi_of rfl ?_
    | refine ⟨_, rfl, ?_⟩
    | refine ⟨_, _, rfl, rfl, ?_⟩
    | refine MI.glc_next rfl ?_
    | refine MI.glc_end rfl ?_
    | refine MI.glf_next rfl ?_
    | refine MI.glf_end rfl ?_
    | refine ⟨Nat.le_of_ble_eq_true rfl, ?_⟩)
  exact h
theorem p_times_r {x : Fo} {z : Int} {n : Nat} {B : Nat} (e : z = (n : Nat)) (hx : SzF B x) (hB : B ≤ 40000) (hn : n ≤ 40000) (h : Q (fv (ups n x)) st) : GC G (d + 1) 5 [fv x, .int z] st Q := by
  subst e
  have sa : Sm x.a := sm_of hx.a (by omega)
  have sb : Sm x.b := sm_of hx.b (by omega)
  have sc' : Sm x.c := sm_of hx.c (by omega)
  have sd : Sm x.d := sm_of hx.d (by omega)
  have uz := upF_sz hx
  have ua : Sm (x.b - x.d) := sm_of uz.a (by omega)
  have ub : Sm (x.a + x.c) := sm_of uz.b (by omega)
  have uc : Sm (x.b + x.d) := sm_of uz.c (by omega)
  have ud : Sm (x.c - x.a) := sm_of uz.d (by omega)
  have pw : Sm (1 * 2 ^ ((n : Int) / 2).toNat) := sm_pow (by omega)
  refine c_times_r ?_
  obtain ⟨m, hm⟩ : ∃ m, n = 2 * m ∨ n = 2 * m + 1 := ⟨n / 2, by omega⟩
  rcases hm with rfl | rfl
  · repeat (first
      | with_reducible (first | refine MI.gss_cons ?_ | refine MI.gss_nil ?_ | refine MI.gn_next ?_ | refine MI.gn_ret ?_ | refine MI.gn_brk ?_ | refine MI.gn_cont ?_ | refine MI.gk_next ?_ | refine MI.gk_cont ?_ | refine MI.gk_brk ?_ | refine MI.gk_ret ?_ | refine MI.gf_ret ?_ | refine MI.gf_next ?_ | refine MI.gs_asg ?_ | refine MI.gs_asgT ?_ | refine MI.gs_par ?_ | refine MI.gs_put ?_ | refine MI.gs_if ?_ | refine MI.gs_ret ?_ | refine MI.gs_retN ?_ | refine MI.gs_expr ?_ | refine MI.gs_pass ?_ | refine MI.gs_brk ?_ | refine MI.gs_cont ?_ | refine MI.gs_while ?_ | refine MI.gs_for ?_ | refine MI.ge_of ?_ | refine MI.ga_val ?_ | refine MI.ga_new ?_ | refine MI.gl_nil ?_ | refine MI.gl_cons ?_ | refine MI.gr_nil ?_ | refine MI.gr_cons ?_ | refine MI.gi_rng ?_ | refine MI.gi_of ?_ | refine MI.gv_name ?_ | refine MI.gv_int ?_ | refine MI.gv_bl ?_ | refine MI.gv_str ?_ | refine MI.gv_non ?_ | refine MI.gv_ty ?_ | refine MI.gv_glob ?_ | refine MI.gv_bin ?_ | refine MI.gv_neg ?_ | refine MI.gv_not ?_ | refine MI.gv_and ?_ | refine MI.gv_or ?_ | refine MI.gand_one ?_ | refine MI.gand_cons ?_ | refine MI.gor_one ?_ | refine MI.gor_cons ?_ | refine MI.gv_cmp ?_ | refine MI.gv_chain ?_ | refine MI.gv_ife ?_ | refine MI.gv_idx ?_ | refine MI.gv_slice ?_ | refine MI.go_none ?_ | refine MI.go_some ?_ | refine MI.gv_rev ?_ | refine MI.gv_call ?_ | refine MI.gv_callK ?_ | refine MI.gv_bi ?_ | refine MI.gv_comp ?_ | refine MI.gv_pop ?_ | refine MI.gv_append ?_ | refine MI.gv_dct ?_ | refine MI.gt_not ?_ | refine MI.gt_and ?_ | refine MI.gt_or ?_ | refine MI.gandt_one ?_ | refine MI.gandt_cons ?_ | refine MI.gort_one ?_ | refine MI.gort_cons ?_ | refine MI.gt_val ?_ | refine MI.gifs_nil ?_ | refine MI.gifs_cons ?_ | refine MI.gif_true ?_ | refine MI.gif_false ?_ | refine MI.gif_not ?_ | refine MI.gb_add ?_ | refine MI.gb_sub ?_ | refine MI.gm_lt ?_ | refine MI.gm_le ?_ | refine MI.gm_gt ?_ | refine MI.gm_ge ?_ | refine MI.gm_eq ?_ | refine MI.gm_ne ?_ | refine MI.gm_seq ?_ | refine MI.gtr_bl ?_ | refine MI.gtr_int ?_ | refine MI.gbi_int_int ?_ | refine MI.gbi_int_bool ?_ | refine MI.gbi_int_tup ?_ | refine MI.gbi_int_list ?_ | refine MI.gbi_int_dict ?_ | refine MI.gbi_tup_tup ?_ | refine MI.gbi_bl_tup ?_ | refine MI.gbi_bl_list ?_ | refine MI.gbi_bl_dict ?_ | refine MI.gbi_bl_bool ?_ | refine MI.gbi_len_tup ?_ | refine MI.gbi_int1 ?_ | refine MI.gbi_max ?_)
      | refine gb_shl (shl1 (by omega) (by omega)) ?_
      | refine gb_mul (sm_mul (by assumption) (by assumption)) ?_
      | with_reducible refine MI.gv_tup ?_
      | with_reducible refine MI.gv_lst ?_
      | with_reducible refine MI.gb_mod (by first | decide | omega) ?_
      | with_reducible refine MI.gb_div (by first | decide | assumption) ?_
      | with_reducible refine MI.gb_mul (by first | decide | assumption) ?_
      | with_reducible refine MI.gb_pow (by decide) ?_
      | with_reducible refine MI.gif_dec_t (by first | assumption | omega | decide) ?_
      | with_reducible refine MI.gif_dec_f (by first | assumption | omega | decide) ?_
      | refine MI.gif_t rfl ?_
      | refine MI.gif_f rfl ?_
      | with_reducible refine MI.grg_of (by omega) (by omega) ?_
      | refine MI.gx_of rfl ?_
      | refine MI.gbi_of rfl ?_
      | refine ⟨_, rfl, ?_⟩
      | refine ⟨_, _, rfl, rfl, ?_⟩
      | refine MI.glc_next rfl ?_
      | refine MI.glc_end rfl ?_
      | refine MI.glf_next rfl ?_
      | refine MI.glf_end rfl ?_
      | refine ⟨Nat.le_of_ble_eq_true rfl, ?_⟩)
    rw [ups_two] at h
    rw [show (((2 * m : Nat) : Int) / 2).toNat = m by omega, Int.one_mul]
    exact h
  · repeat (first
      | with_reducible (first | refine MI.gss_cons ?_ | refine MI.gss_nil ?_ | refine MI.gn_next ?_ | refine MI.gn_ret ?_ | refine MI.gn_brk ?_ | refine MI.gn_cont ?_ | refine MI.gk_next ?_ | refine MI.gk_cont ?_ | refine MI.gk_brk ?_ | refine MI.gk_ret ?_ | refine MI.gf_ret ?_ | refine MI.gf_next ?_ | refine MI.gs_asg ?_ | refine MI.gs_asgT ?_ | refine MI.gs_par ?_ | refine MI.gs_put ?_ | refine MI.gs_if ?_ | refine MI.gs_ret ?_ | refine MI.gs_retN ?_ | refine MI.gs_expr ?_ | refine MI.gs_pass ?_ | refine MI.gs_brk ?_ | refine MI.gs_cont ?_ | refine MI.gs_while ?_ | refine MI.gs_for ?_ | refine MI.ge_of ?_ | refine MI.ga_val ?_ | refine MI.ga_new ?_ | refine MI.gl_nil ?_ | refine MI.gl_cons ?_ | refine MI.gr_nil ?_ | refine MI.gr_cons ?_ | refine MI.gi_rng ?_ | refine MI.gi_of ?_ | refine MI.gv_name ?_ | refine MI.gv_int ?_ | refine MI.gv_bl ?_ | refine MI.gv_str ?_ | refine MI.gv_non ?_ | refine MI.gv_ty ?_ | refine MI.gv_glob ?_ | refine MI.gv_bin ?_ | refine MI.gv_neg ?_ | refine MI.gv_not ?_ | refine MI.gv_and ?_ | refine MI.gv_or ?_ | refine MI.gand_one ?_ | refine MI.gand_cons ?_ | refine MI.gor_one ?_ | refine MI.gor_cons ?_ | refine MI.gv_cmp ?_ | refine MI.gv_chain ?_ | refine MI.gv_ife ?_ | refine MI.gv_idx ?_ | refine MI.gv_slice ?_ | refine MI.go_none ?_ | refine MI.go_some ?_ | refine MI.gv_rev ?_ | refine MI.gv_call ?_ | refine MI.gv_callK ?_ | refine MI.gv_bi ?_ | refine MI.gv_comp ?_ | refine MI.gv_pop ?_ | refine MI.gv_append ?_ | refine MI.gv_dct ?_ | refine MI.gt_not ?_ | refine MI.gt_and ?_ | refine MI.gt_or ?_ | refine MI.gandt_one ?_ | refine MI.gandt_cons ?_ | refine MI.gort_one ?_ | refine MI.gort_cons ?_ | refine MI.gt_val ?_ | refine MI.gifs_nil ?_ | refine MI.gifs_cons ?_ | refine MI.gif_true ?_ | refine MI.gif_false ?_ | refine MI.gif_not ?_ | refine MI.gb_add ?_ | refine MI.gb_sub ?_ | refine MI.gm_lt ?_ | refine MI.gm_le ?_ | refine MI.gm_gt ?_ | refine MI.gm_ge ?_ | refine MI.gm_eq ?_ | refine MI.gm_ne ?_ | refine MI.gm_seq ?_ | refine MI.gtr_bl ?_ | refine MI.gtr_int ?_ | refine MI.gbi_int_int ?_ | refine MI.gbi_int_bool ?_ | refine MI.gbi_int_tup ?_ | refine MI.gbi_int_list ?_ | refine MI.gbi_int_dict ?_ | refine MI.gbi_tup_tup ?_ | refine MI.gbi_bl_tup ?_ | refine MI.gbi_bl_list ?_ | refine MI.gbi_bl_dict ?_ | refine MI.gbi_bl_bool ?_ | refine MI.gbi_len_tup ?_ | refine MI.gbi_int1 ?_ | refine MI.gbi_max ?_)
      | refine gb_shl (shl1 (by omega) (by omega)) ?_
      | refine gb_mul (sm_mul (by assumption) (by assumption)) ?_
      | with_reducible refine MI.gv_tup ?_
      | with_reducible refine MI.gv_lst ?_
      | with_reducible refine MI.gb_mod (by first | decide | omega) ?_
      | with_reducible refine MI.gb_div (by first | decide | assumption) ?_
      | with_reducible refine MI.gb_mul (by first | decide | assumption) ?_
      | with_reducible refine MI.gb_pow (by decide) ?_
      | with_reducible refine MI.gif_dec_t (by first | assumption | omega | decide) ?_
      | with_reducible refine MI.gif_dec_f (by first | assumption | omega | decide) ?_
      | refine MI.gif_t rfl ?_
      | refine MI.gif_f rfl ?_
      | with_reducible refine MI.grg_of (by omega) (by omega) ?_
      | refine MI.gx_of rfl ?_
      | refine MI.gbi_of rfl ?_
      | refine ⟨_, rfl, ?_⟩
      | refine ⟨_, _, rfl, rfl, ?_⟩
      | refine MI.glc_next rfl ?_
      | refine MI.glc_end rfl ?_
      | refine MI.glf_next rfl ?_
      | refine MI.glf_end rfl ?_
      | refine ⟨Nat.le_of_ble_eq_true rfl, ?_⟩)
    rw [ups_odd] at h
    rw [show (((2 * m + 1 : Nat) : Int) / 2).toNat = m by omega, Int.one_mul]
    exact h
end
end K01
end
section
set_option Elab.async false
set_option linter.all false
set_option maxRecDepth 100000
set_option maxHeartbeats 4000000
namespace K01
open PySem MI
section
variable {d : Nat} {st : Store} {Q : PV → Store → Prop}
theorem p_low4E {k : Nat} {z a b c e : Int} (hz : z = (k : Nat)) (h : Q (rv (lowQ k a b c e)) st) : GC G (d + 1) 4 [.int a, .int b, .int c, .int e, .int z] st Q := by
  subst hz
  exact p_low4 h
theorem p_low24E {k : Nat} {z a b c e : Int} (hz : z = (k : Nat)) (h : Q (rv (lowQ k a b c e)) st) : GC G (d + 1) 24 [.int a, .int b, .int c, .int e, .int z] st Q := by
  subst hz
  exact p_low24 h
theorem cut4 (x : Rt) : getSl (.val (rv x)) none (some 4) st = some (.val (fv (four x))) := rfl
theorem p_plus {x y : Rt} {B : Nat} (hx : Sz B x) (hy : Sz B y) (hB : B ≤ 40000) (h : Q (rv (plusQ x y)) st) : GC G (d + 2) 6 [rv x, rv y] st Q := by
  have kx := hx.k
  have ky := hy.k
  refine c_plus ?_
  by_cases hk : (x.k : Int) < y.k
  · rw [plusQ_le (by omega)] at h
    repeat (first
      | with_reducible (first | refine MI.gss_cons ?_ | refine MI.gss_nil ?_ | refine MI.gn_next ?_ | refine MI.gn_ret ?_ | refine MI.gn_brk ?_ | refine MI.gn_cont ?_ | refine MI.gk_next ?_ | refine MI.gk_cont ?_ | refine MI.gk_brk ?_ | refine MI.gk_ret ?_ | refine MI.gf_ret ?_ | refine MI.gf_next ?_ | refine MI.gs_asg ?_ | refine MI.gs_asgT ?_ | refine MI.gs_par ?_ | refine MI.gs_put ?_ | refine MI.gs_if ?_ | refine MI.gs_ret ?_ | refine MI.gs_retN ?_ | refine MI.gs_expr ?_ | refine MI.gs_pass ?_ | refine MI.gs_brk ?_ | refine MI.gs_cont ?_ | refine MI.gs_while ?_ | refine MI.gs_for ?_ | refine MI.ge_of ?_ | refine MI.ga_val ?_ | refine MI.ga_new ?_ | refine MI.gl_nil ?_ | refine MI.gl_cons ?_ | refine MI.gr_nil ?_ | refine MI.gr_cons ?_ | refine MI.gi_rng ?_ | refine MI.gi_of ?_ | refine MI.gv_name ?_ | refine MI.gv_int ?_ | refine MI.gv_bl ?_ | refine MI.gv_str ?_ | refine MI.gv_non ?_ | refine MI.gv_ty ?_ | refine MI.gv_glob ?_ | refine MI.gv_bin ?_ | refine MI.gv_neg ?_ | refine MI.gv_not ?_ | refine MI.gv_and ?_ | refine MI.gv_or ?_ | refine MI.gand_one ?_ | refine MI.gand_cons ?_ | refine MI.gor_one ?_ | refine MI.gor_cons ?_ | refine MI.gv_cmp ?_ | refine MI.gv_chain ?_ | refine MI.gv_ife ?_ | refine MI.gv_idx ?_ | refine MI.gv_slice ?_ | refine MI.go_none ?_ | refine MI.go_some ?_ | refine MI.gv_rev ?_ | refine MI.gv_call ?_ | refine MI.gv_callK ?_ | refine MI.gv_bi ?_ | refine MI.gv_comp ?_ | refine MI.gv_pop ?_ | refine MI.gv_append ?_ | refine MI.gv_dct ?_ | refine MI.gt_not ?_ | refine MI.gt_and ?_ | refine MI.gt_or ?_ | refine MI.gandt_one ?_ | refine MI.gandt_cons ?_ | refine MI.gort_one ?_ | refine MI.gort_cons ?_ | refine MI.gt_val ?_ | refine MI.gifs_nil ?_ | refine MI.gifs_cons ?_ | refine MI.gif_true ?_ | refine MI.gif_false ?_ | refine MI.gif_not ?_ | refine MI.gb_add ?_ | refine MI.gb_sub ?_ | refine MI.gm_lt ?_ | refine MI.gm_le ?_ | refine MI.gm_gt ?_ | refine MI.gm_ge ?_ | refine MI.gm_eq ?_ | refine MI.gm_ne ?_ | refine MI.gm_seq ?_ | refine MI.gtr_bl ?_ | refine MI.gtr_int ?_ | refine MI.gbi_int_int ?_ | refine MI.gbi_int_bool ?_ | refine MI.gbi_int_tup ?_ | refine MI.gbi_int_list ?_ | refine MI.gbi_int_dict ?_ | refine MI.gbi_tup_tup ?_ | refine MI.gbi_bl_tup ?_ | refine MI.gbi_bl_list ?_ | refine MI.gbi_bl_dict ?_ | refine MI.gbi_bl_bool ?_ | refine MI.gbi_len_tup ?_ | refine MI.gbi_int1 ?_ | refine MI.gbi_max ?_)
      | refine ⟨_, cut4 x, ?_⟩
      | refine p_times_r (n := y.k - x.k) (by omega) hx.f hB (by omega) ?_
      | refine p_low4 ?_
      | with_reducible refine MI.gv_tup ?_
      | with_reducible refine MI.gv_lst ?_
      | with_reducible refine MI.gb_mod (by first | decide | omega) ?_
      | with_reducible refine MI.gb_div (by first | decide | assumption) ?_
      | with_reducible refine MI.gb_mul (by first | decide | assumption) ?_
      | with_reducible refine MI.gb_pow (by decide) ?_
      | with_reducible refine MI.gif_dec_t (by first | assumption | omega | decide) ?_
      | with_reducible refine MI.gif_dec_f (by first | assumption | omega | decide) ?_
      | refine MI.gif_t rfl ?_
      | refine MI.gif_f rfl ?_
      | with_reducible refine MI.grg_of (by omega) (by omega) ?_
      | refine MI.gx_of rfl ?_
      | refine MI.gbi_of rfl ?_
      | refine ⟨_, rfl, ?_⟩
      | refine ⟨_, _, rfl, rfl, ?_⟩
      | refine MI.glc_next rfl ?_
      | refine MI.glc_end rfl ?_
      | refine MI.glf_next rfl ?_
      | refine MI.glf_end rfl ?_
      | refine ⟨Nat.le_of_ble_eq_true rfl, ?_⟩)
    exact h
  · rw [← plusQ_comm, plusQ_le (by omega)] at h
    repeat (first
      | with_reducible (first | refine MI.gss_cons ?_ | refine MI.gss_nil ?_ | refine MI.gn_next ?_ | refine MI.gn_ret ?_ | refine MI.gn_brk ?_ | refine MI.gn_cont ?_ | refine MI.gk_next ?_ | refine MI.gk_cont ?_ | refine MI.gk_brk ?_ | refine MI.gk_ret ?_ | refine MI.gf_ret ?_ | refine MI.gf_next ?_ | refine MI.gs_asg ?_ | refine MI.gs_asgT ?_ | refine MI.gs_par ?_ | refine MI.gs_put ?_ | refine MI.gs_if ?_ | refine MI.gs_ret ?_ | refine MI.gs_retN ?_ | refine MI.gs_expr ?_ | refine MI.gs_pass ?_ | refine MI.gs_brk ?_ | refine MI.gs_cont ?_ | refine MI.gs_while ?_ | refine MI.gs_for ?_ | refine MI.ge_of ?_ | refine MI.ga_val ?_ | refine MI.ga_new ?_ | refine MI.gl_nil ?_ | refine MI.gl_cons ?_ | refine MI.gr_nil ?_ | refine MI.gr_cons ?_ | refine MI.gi_rng ?_ | refine MI.gi_of ?_ | refine MI.gv_name ?_ | refine MI.gv_int ?_ | refine MI.gv_bl ?_ | refine MI.gv_str ?_ | refine MI.gv_non ?_ | refine MI.gv_ty ?_ | refine MI.gv_glob ?_ | refine MI.gv_bin ?_ | refine MI.gv_neg ?_ | refine MI.gv_not ?_ | refine MI.gv_and ?_ | refine MI.gv_or ?_ | refine MI.gand_one ?_ | refine MI.gand_cons ?_ | refine MI.gor_one ?_ | refine MI.gor_cons ?_ | refine MI.gv_cmp ?_ | refine MI.gv_chain ?_ | refine MI.gv_ife ?_ | refine MI.gv_idx ?_ | refine MI.gv_slice ?_ | refine MI.go_none ?_ | refine MI.go_some ?_ | refine MI.gv_rev ?_ | refine MI.gv_call ?_ | refine MI.gv_callK ?_ | refine MI.gv_bi ?_ | refine MI.gv_comp ?_ | refine MI.gv_pop ?_ | refine MI.gv_append ?_ | refine MI.gv_dct ?_ | refine MI.gt_not ?_ | refine MI.gt_and ?_ | refine MI.gt_or ?_ | refine MI.gandt_one ?_ | refine MI.gandt_cons ?_ | refine MI.gort_one ?_ | refine MI.gort_cons ?_ | refine MI.gt_val ?_ | refine MI.gifs_nil ?_ | refine MI.gifs_cons ?_ | refine MI.gif_true ?_ | refine MI.gif_false ?_ | refine MI.gif_not ?_ | refine MI.gb_add ?_ | refine MI.gb_sub ?_ | refine MI.gm_lt ?_ | refine MI.gm_le ?_ | refine MI.gm_gt ?_ | refine MI.gm_ge ?_ | refine MI.gm_eq ?_ | refine MI.gm_ne ?_ | refine MI.gm_seq ?_ | refine MI.gtr_bl ?_ | refine MI.gtr_int ?_ | refine MI.gbi_int_int ?_ | refine MI.gbi_int_bool ?_ | refine MI.gbi_int_tup ?_ | refine MI.gbi_int_list ?_ | refine MI.gbi_int_dict ?_ | refine MI.gbi_tup_tup ?_ | refine MI.gbi_bl_tup ?_ | refine MI.gbi_bl_list ?_ | refine MI.gbi_bl_dict ?_ | refine MI.gbi_bl_bool ?_ | refine MI.gbi_len_tup ?_ | refine MI.gbi_int1 ?_ | refine MI.gbi_max ?_)
      | refine ⟨_, cut4 y, ?_⟩
      | refine p_times_r (n := x.k - y.k) (by omega) hy.f hB (by omega) ?_
      | refine p_low4 ?_
      | with_reducible refine MI.gv_tup ?_
      | with_reducible refine MI.gv_lst ?_
      | with_reducible refine MI.gb_mod (by first | decide | omega) ?_
      | with_reducible refine MI.gb_div (by first | decide | assumption) ?_
      | with_reducible refine MI.gb_mul (by first | decide | assumption) ?_
      | with_reducible refine MI.gb_pow (by decide) ?_
      | with_reducible refine MI.gif_dec_t (by first | assumption | omega | decide) ?_
      | with_reducible refine MI.gif_dec_f (by first | assumption | omega | decide) ?_
      | refine MI.gif_t rfl ?_
      | refine MI.gif_f rfl ?_
      | with_reducible refine MI.grg_of (by omega) (by omega) ?_
      | refine MI.gx_of rfl ?_
      | refine MI.gbi_of rfl ?_
      | refine ⟨_, rfl, ?_⟩
      | refine ⟨_, _, rfl, rfl, ?_⟩
      | refine MI.glc_next rfl ?_
      | refine MI.glc_end rfl ?_
      | refine MI.glf_next rfl ?_
      | refine MI.glf_end rfl ?_
      | refine ⟨Nat.le_of_ble_eq_true rfl, ?_⟩)
    exact h
theorem p_minus {x : Rt} (h : Q (rv (negQ x)) st) : GC G (d + 1) 7 [rv x] st Q := by
  refine c_minus ?_
  repeat (first
    | with_reducible (first | refine MI.gss_cons ?_ | refine MI.gss_nil ?_ | refine MI.gn_next ?_ | refine MI.gn_ret ?_ | refine MI.gn_brk ?_ | refine MI.gn_cont ?_ | refine MI.gk_next ?_ | refine MI.gk_cont ?_ | refine MI.gk_brk ?_ | refine MI.gk_ret ?_ | refine MI.gf_ret ?_ | refine MI.gf_next ?_ | refine MI.gs_asg ?_ | refine MI.gs_asgT ?_ | refine MI.gs_par ?_ | refine MI.gs_put ?_ | refine MI.gs_if ?_ | refine MI.gs_ret ?_ | refine MI.gs_retN ?_ | refine MI.gs_expr ?_ | refine MI.gs_pass ?_ | refine MI.gs_brk ?_ | refine MI.gs_cont ?_ | refine MI.gs_while ?_ | refine MI.gs_for ?_ | refine MI.ge_of ?_ | refine MI.ga_val ?_ | refine MI.ga_new ?_ | refine MI.gl_nil ?_ | refine MI.gl_cons ?_ | refine MI.gr_nil ?_ | refine MI.gr_cons ?_ | refine MI.gi_rng ?_ | refine MI.gi_of ?_ | refine MI.gv_name ?_ | refine MI.gv_int ?_ | refine MI.gv_bl ?_ | refine MI.gv_str ?_ | refine MI.gv_non ?_ | refine MI.gv_ty ?_ | refine MI.gv_glob ?_ | refine MI.gv_bin ?_ | refine MI.gv_neg ?_ | refine MI.gv_not ?_ | refine MI.gv_and ?_ | refine MI.gv_or ?_ | refine MI.gand_one ?_ | refine MI.gand_cons ?_ | refine MI.gor_one ?_ | refine MI.gor_cons ?_ | refine MI.gv_cmp ?_ | refine MI.gv_chain ?_ | refine MI.gv_ife ?_ | refine MI.gv_idx ?_ | refine MI.gv_slice ?_ | refine MI.go_none ?_ | refine MI.go_some ?_ | refine MI.gv_rev ?_ | refine MI.gv_call ?_ | refine MI.gv_callK ?_ | refine MI.gv_bi ?_ | refine MI.gv_comp ?_ | refine MI.gv_pop ?_ | refine MI.gv_append ?_ | refine MI.gv_dct ?_ | refine MI.gt_not ?_ | refine MI.gt_and ?_ | refine MI.gt_or ?_ | refine MI.gandt_one ?_ | refine MI.gandt_cons ?_ | refine MI.gort_one ?_ | refine MI.gort_cons ?_ | refine MI.gt_val ?_ | refine MI.gifs_nil ?_ | refine MI.gifs_cons ?_ | refine MI.gif_true ?_ | refine MI.gif_false ?_ | refine MI.gif_not ?_ | refine MI.gb_add ?_ | refine MI.gb_sub ?_ | refine MI.gm_lt ?_ | refine MI.gm_le ?_ | refine MI.gm_gt ?_ | refine MI.gm_ge ?_ | refine MI.gm_eq ?_ | refine MI.gm_ne ?_ | refine MI.gm_seq ?_ | refine MI.gtr_bl ?_ | refine MI.gtr_int ?_ | refine MI.gbi_int_int ?_ | refine MI.gbi_int_bool ?_ | refine MI.gbi_int_tup ?_ | refine MI.gbi_int_list ?_ | refine MI.gbi_int_dict ?_ | refine MI.gbi_tup_tup ?_ | refine MI.gbi_bl_tup ?_ | refine MI.gbi_bl_list ?_ | refine MI.gbi_bl_dict ?_ | refine MI.gbi_bl_bool ?_ | refine MI.gbi_len_tup ?_ | refine MI.gbi_int1 ?_ | refine MI.gbi_max ?_)
    | with_reducible refine MI.gv_tup ?_
    | with_reducible refine MI.gv_lst ?_
    | with_reducible refine MI.gb_mod (by first | decide | omega) ?_
    | with_reducible refine MI.gb_div (by first | decide | assumption) ?_
    | with_reducible refine MI.gb_mul (by first | decide | assumption) ?_
    | with_reducible refine MI.gb_pow (by decide) ?_
    | with_reducible refine MI.gif_dec_t (by first | assumption | omega | decide) ?_
    | with_reducible refine MI.gif_dec_f (by first | assumption | omega | decide) ?_
    | refine MI.gif_t rfl ?_
    | refine MI.gif_f rfl ?_
    | with_reducible refine MI.grg_of (by omega) (by omega) ?_
    | refine MI.gx_of rfl ?_
    | refine MI.gbi_of rfl ?_
    | refine ⟨_, rfl, ?_⟩
    | refine ⟨_, _, rfl, rfl, ?_⟩
    | refine MI.glc_next rfl ?_
    | refine MI.glc_end rfl ?_
    | refine MI.glf_next rfl ?_
    | refine MI.glf_end rfl ?_
    | refine ⟨Nat.le_of_ble_eq_true rfl, ?_⟩)
  exact h
theorem p_lminus {x : Rt} (h : Q (rv (negQ x)) st) : GC G (d + 1) 29 [rv x] st Q := by
  refine c_law_minus ?_
  repeat (first
    | with_reducible (first | refine MI.gss_cons ?_ | refine MI.gss_nil ?_ | refine MI.gn_next ?_ | refine MI.gn_ret ?_ | refine MI.gn_brk ?_ | refine MI.gn_cont ?_ | refine MI.gk_next ?_ | refine MI.gk_cont ?_ | refine MI.gk_brk ?_ | refine MI.gk_ret ?_ | refine MI.gf_ret ?_ | refine MI.gf_next ?_ | refine MI.gs_asg ?_ | refine MI.gs_asgT ?_ | refine MI.gs_par ?_ | refine MI.gs_put ?_ | refine MI.gs_if ?_ | refine MI.gs_ret ?_ | refine MI.gs_retN ?_ | refine MI.gs_expr ?_ | refine MI.gs_pass ?_ | refine MI.gs_brk ?_ | refine MI.gs_cont ?_ | refine MI.gs_while ?_ | refine MI.gs_for ?_ | refine MI.ge_of ?_ | refine MI.ga_val ?_ | refine MI.ga_new ?_ | refine MI.gl_nil ?_ | refine MI.gl_cons ?_ | refine MI.gr_nil ?_ | refine MI.gr_cons ?_ | refine MI.gi_rng ?_ | refine MI.gi_of ?_ | refine MI.gv_name ?_ | refine MI.gv_int ?_ | refine MI.gv_bl ?_ | refine MI.gv_str ?_ | refine MI.gv_non ?_ | refine MI.gv_ty ?_ | refine MI.gv_glob ?_ | refine MI.gv_bin ?_ | refine MI.gv_neg ?_ | refine MI.gv_not ?_ | refine MI.gv_and ?_ | refine MI.gv_or ?_ | refine MI.gand_one ?_ | refine MI.gand_cons ?_ | refine MI.gor_one ?_ | refine MI.gor_cons ?_ | refine MI.gv_cmp ?_ | refine MI.gv_chain ?_ | refine MI.gv_ife ?_ | refine MI.gv_idx ?_ | refine MI.gv_slice ?_ | refine MI.go_none ?_ | refine MI.go_some ?_ | refine MI.gv_rev ?_ | refine MI.gv_call ?_ | refine MI.gv_callK ?_ | refine MI.gv_bi ?_ | refine MI.gv_comp ?_ | refine MI.gv_pop ?_ | refine MI.gv_append ?_ | refine MI.gv_dct ?_ | refine MI.gt_not ?_ | refine MI.gt_and ?_ | refine MI.gt_or ?_ | refine MI.gandt_one ?_ | refine MI.gandt_cons ?_ | refine MI.gort_one ?_ | refine MI.gort_cons ?_ | refine MI.gt_val ?_ | refine MI.gifs_nil ?_ | refine MI.gifs_cons ?_ | refine MI.gif_true ?_ | refine MI.gif_false ?_ | refine MI.gif_not ?_ | refine MI.gb_add ?_ | refine MI.gb_sub ?_ | refine MI.gm_lt ?_ | refine MI.gm_le ?_ | refine MI.gm_gt ?_ | refine MI.gm_ge ?_ | refine MI.gm_eq ?_ | refine MI.gm_ne ?_ | refine MI.gm_seq ?_ | refine MI.gtr_bl ?_ | refine MI.gtr_int ?_ | refine MI.gbi_int_int ?_ | refine MI.gbi_int_bool ?_ | refine MI.gbi_int_tup ?_ | refine MI.gbi_int_list ?_ | refine MI.gbi_int_dict ?_ | refine MI.gbi_tup_tup ?_ | refine MI.gbi_bl_tup ?_ | refine MI.gbi_bl_list ?_ | refine MI.gbi_bl_dict ?_ | refine MI.gbi_bl_bool ?_ | refine MI.gbi_len_tup ?_ | refine MI.gbi_int1 ?_ | refine MI.gbi_max ?_)
    | with_reducible refine MI.gv_tup ?_
    | with_reducible refine MI.gv_lst ?_
    | with_reducible refine MI.gb_mod (by first | decide | omega) ?_
    | with_reducible refine MI.gb_div (by first | decide | assumption) ?_
    | with_reducible refine MI.gb_mul (by first | decide | assumption) ?_
    | with_reducible refine MI.gb_pow (by decide) ?_
    | with_reducible refine MI.gif_dec_t (by first | assumption | omega | decide) ?_
    | with_reducible refine MI.gif_dec_f (by first | assumption | omega | decide) ?_
    | refine MI.gif_t rfl ?_
    | refine MI.gif_f rfl ?_
    | with_reducible refine MI.grg_of (by omega) (by omega) ?_
    | refine MI.gx_of rfl ?_
    | refine MI.gbi_of rfl ?_
    | refine ⟨_, rfl, ?_⟩
    | refine ⟨_, _, rfl, rfl, ?_⟩
    | refine MI.glc_next rfl ?_
    | refine MI.glc_end rfl ?_
    | refine MI.glf_next rfl ?_
    | refine MI.glf_end rfl ?_
    | refine ⟨Nat.le_of_ble_eq_true rfl, ?_⟩)
  exact h
theorem p_bar {x : Rt} (h : Q (rv (barQ x)) st) : GC G (d + 1) 9 [rv x] st Q := by
  refine c_bar ?_
  repeat (first
    | with_reducible (first | refine MI.gss_cons ?_ | refine MI.gss_nil ?_ | refine MI.gn_next ?_ | refine MI.gn_ret ?_ | refine MI.gn_brk ?_ | refine MI.gn_cont ?_ | refine MI.gk_next ?_ | refine MI.gk_cont ?_ | refine MI.gk_brk ?_ | refine MI.gk_ret ?_ | refine MI.gf_ret ?_ | refine MI.gf_next ?_ | refine MI.gs_asg ?_ | refine MI.gs_asgT ?_ | refine MI.gs_par ?_ | refine MI.gs_put ?_ | refine MI.gs_if ?_ | refine MI.gs_ret ?_ | refine MI.gs_retN ?_ | refine MI.gs_expr ?_ | refine MI.gs_pass ?_ | refine MI.gs_brk ?_ | refine MI.gs_cont ?_ | refine MI.gs_while ?_ | refine MI.gs_for ?_ | refine MI.ge_of ?_ | refine MI.ga_val ?_ | refine MI.ga_new ?_ | refine MI.gl_nil ?_ | refine MI.gl_cons ?_ | refine MI.gr_nil ?_ | refine MI.gr_cons ?_ | refine MI.gi_rng ?_ | refine MI.gi_of ?_ | refine MI.gv_name ?_ | refine MI.gv_int ?_ | refine MI.gv_bl ?_ | refine MI.gv_str ?_ | refine MI.gv_non ?_ | refine MI.gv_ty ?_ | refine MI.gv_glob ?_ | refine MI.gv_bin ?_ | refine MI.gv_neg ?_ | refine MI.gv_not ?_ | refine MI.gv_and ?_ | refine MI.gv_or ?_ | refine MI.gand_one ?_ | refine MI.gand_cons ?_ | refine MI.gor_one ?_ | refine MI.gor_cons ?_ | refine MI.gv_cmp ?_ | refine MI.gv_chain ?_ | refine MI.gv_ife ?_ | refine MI.gv_idx ?_ | refine MI.gv_slice ?_ | refine MI.go_none ?_ | refine MI.go_some ?_ | refine MI.gv_rev ?_ | refine MI.gv_call ?_ | refine MI.gv_callK ?_ | refine MI.gv_bi ?_ | refine MI.gv_comp ?_ | refine MI.gv_pop ?_ | refine MI.gv_append ?_ | refine MI.gv_dct ?_ | refine MI.gt_not ?_ | refine MI.gt_and ?_ | refine MI.gt_or ?_ | refine MI.gandt_one ?_ | refine MI.gandt_cons ?_ | refine MI.gort_one ?_ | refine MI.gort_cons ?_ | refine MI.gt_val ?_ | refine MI.gifs_nil ?_ | refine MI.gifs_cons ?_ | refine MI.gif_true ?_ | refine MI.gif_false ?_ | refine MI.gif_not ?_ | refine MI.gb_add ?_ | refine MI.gb_sub ?_ | refine MI.gm_lt ?_ | refine MI.gm_le ?_ | refine MI.gm_gt ?_ | refine MI.gm_ge ?_ | refine MI.gm_eq ?_ | refine MI.gm_ne ?_ | refine MI.gm_seq ?_ | refine MI.gtr_bl ?_ | refine MI.gtr_int ?_ | refine MI.gbi_int_int ?_ | refine MI.gbi_int_bool ?_ | refine MI.gbi_int_tup ?_ | refine MI.gbi_int_list ?_ | refine MI.gbi_int_dict ?_ | refine MI.gbi_tup_tup ?_ | refine MI.gbi_bl_tup ?_ | refine MI.gbi_bl_list ?_ | refine MI.gbi_bl_dict ?_ | refine MI.gbi_bl_bool ?_ | refine MI.gbi_len_tup ?_ | refine MI.gbi_int1 ?_ | refine MI.gbi_max ?_)
    | with_reducible refine MI.gv_tup ?_
    | with_reducible refine MI.gv_lst ?_
    | with_reducible refine MI.gb_mod (by first | decide | omega) ?_
    | with_reducible refine MI.gb_div (by first | decide | assumption) ?_
    | with_reducible refine MI.gb_mul (by first | decide | assumption) ?_
    | with_reducible refine MI.gb_pow (by decide) ?_
    | with_reducible refine MI.gif_dec_t (by first | assumption | omega | decide) ?_
    | with_reducible refine MI.gif_dec_f (by first | assumption | omega | decide) ?_
    | refine MI.gif_t rfl ?_
    | refine MI.gif_f rfl ?_
    | with_reducible refine MI.grg_of (by omega) (by omega) ?_
    | refine MI.gx_of rfl ?_
    | refine MI.gbi_of rfl ?_
    | refine ⟨_, rfl, ?_⟩
    | refine ⟨_, _, rfl, rfl, ?_⟩
    | refine MI.glc_next rfl ?_
    | refine MI.glc_end rfl ?_
    | refine MI.glf_next rfl ?_
    | refine MI.glf_end rfl ?_
    | refine ⟨Nat.le_of_ble_eq_true rfl, ?_⟩)
  exact h
theorem p_lbar {x : Rt} (h : Q (rv (barQ x)) st) : GC G (d + 1) 30 [rv x] st Q := by
  refine c_law_conjugate ?_
  repeat (first
    | with_reducible (first | refine MI.gss_cons ?_ | refine MI.gss_nil ?_ | refine MI.gn_next ?_ | refine MI.gn_ret ?_ | refine MI.gn_brk ?_ | refine MI.gn_cont ?_ | refine MI.gk_next ?_ | refine MI.gk_cont ?_ | refine MI.gk_brk ?_ | refine MI.gk_ret ?_ | refine MI.gf_ret ?_ | refine MI.gf_next ?_ | refine MI.gs_asg ?_ | refine MI.gs_asgT ?_ | refine MI.gs_par ?_ | refine MI.gs_put ?_ | refine MI.gs_if ?_ | refine MI.gs_ret ?_ | refine MI.gs_retN ?_ | refine MI.gs_expr ?_ | refine MI.gs_pass ?_ | refine MI.gs_brk ?_ | refine MI.gs_cont ?_ | refine MI.gs_while ?_ | refine MI.gs_for ?_ | refine MI.ge_of ?_ | refine MI.ga_val ?_ | refine MI.ga_new ?_ | refine MI.gl_nil ?_ | refine MI.gl_cons ?_ | refine MI.gr_nil ?_ | refine MI.gr_cons ?_ | refine MI.gi_rng ?_ | refine MI.gi_of ?_ | refine MI.gv_name ?_ | refine MI.gv_int ?_ | refine MI.gv_bl ?_ | refine MI.gv_str ?_ | refine MI.gv_non ?_ | refine MI.gv_ty ?_ | refine MI.gv_glob ?_ | refine MI.gv_bin ?_ | refine MI.gv_neg ?_ | refine MI.gv_not ?_ | refine MI.gv_and ?_ | refine MI.gv_or ?_ | refine MI.gand_one ?_ | refine MI.gand_cons ?_ | refine MI.gor_one ?_ | refine MI.gor_cons ?_ | refine MI.gv_cmp ?_ | refine MI.gv_chain ?_ | refine MI.gv_ife ?_ | refine MI.gv_idx ?_ | refine MI.gv_slice ?_ | refine MI.go_none ?_ | refine MI.go_some ?_ | refine MI.gv_rev ?_ | refine MI.gv_call ?_ | refine MI.gv_callK ?_ | refine MI.gv_bi ?_ | refine MI.gv_comp ?_ | refine MI.gv_pop ?_ | refine MI.gv_append ?_ | refine MI.gv_dct ?_ | refine MI.gt_not ?_ | refine MI.gt_and ?_ | refine MI.gt_or ?_ | refine MI.gandt_one ?_ | refine MI.gandt_cons ?_ | refine MI.gort_one ?_ | refine MI.gort_cons ?_ | refine MI.gt_val ?_ | refine MI.gifs_nil ?_ | refine MI.gifs_cons ?_ | refine MI.gif_true ?_ | refine MI.gif_false ?_ | refine MI.gif_not ?_ | refine MI.gb_add ?_ | refine MI.gb_sub ?_ | refine MI.gm_lt ?_ | refine MI.gm_le ?_ | refine MI.gm_gt ?_ | refine MI.gm_ge ?_ | refine MI.gm_eq ?_ | refine MI.gm_ne ?_ | refine MI.gm_seq ?_ | refine MI.gtr_bl ?_ | refine MI.gtr_int ?_ | refine MI.gbi_int_int ?_ | refine MI.gbi_int_bool ?_ | refine MI.gbi_int_tup ?_ | refine MI.gbi_int_list ?_ | refine MI.gbi_int_dict ?_ | refine MI.gbi_tup_tup ?_ | refine MI.gbi_bl_tup ?_ | refine MI.gbi_bl_list ?_ | refine MI.gbi_bl_dict ?_ | refine MI.gbi_bl_bool ?_ | refine MI.gbi_len_tup ?_ | refine MI.gbi_int1 ?_ | refine MI.gbi_max ?_)
    | with_reducible refine MI.gv_tup ?_
    | with_reducible refine MI.gv_lst ?_
    | with_reducible refine MI.gb_mod (by first | decide | omega) ?_
    | with_reducible refine MI.gb_div (by first | decide | assumption) ?_
    | with_reducible refine MI.gb_mul (by first | decide | assumption) ?_
    | with_reducible refine MI.gb_pow (by decide) ?_
    | with_reducible refine MI.gif_dec_t (by first | assumption | omega | decide) ?_
    | with_reducible refine MI.gif_dec_f (by first | assumption | omega | decide) ?_
    | refine MI.gif_t rfl ?_
    | refine MI.gif_f rfl ?_
    | with_reducible refine MI.grg_of (by omega) (by omega) ?_
    | refine MI.gx_of rfl ?_
    | refine MI.gbi_of rfl ?_
    | refine ⟨_, rfl, ?_⟩
    | refine ⟨_, _, rfl, rfl, ?_⟩
    | refine MI.glc_next rfl ?_
    | refine MI.glc_end rfl ?_
    | refine MI.glf_next rfl ?_
    | refine MI.glf_end rfl ?_
    | refine ⟨Nat.le_of_ble_eq_true rfl, ?_⟩)
  exact h
theorem p_times {x y : Rt} {B : Nat} (hx : Sz B x) (hy : Sz B y) (hB : B ≤ 40000) (h : Q (rv (timesQ x y)) st) : GC G (d + 2) 8 [rv x, rv y] st Q := by
  have a1 : Sm x.a := sm_of hx.f.a (by omega)
  have a2 : Sm x.b := sm_of hx.f.b (by omega)
  have a3 : Sm x.c := sm_of hx.f.c (by omega)
  have a4 : Sm x.d := sm_of hx.f.d (by omega)
  have b1 : Sm y.a := sm_of hy.f.a (by omega)
  have b2 : Sm y.b := sm_of hy.f.b (by omega)
  have b3 : Sm y.c := sm_of hy.f.c (by omega)
  have b4 : Sm y.d := sm_of hy.f.d (by omega)
  refine c_times ?_
  repeat (first
    | with_reducible (first | refine MI.gss_cons ?_ | refine MI.gss_nil ?_ | refine MI.gn_next ?_ | refine MI.gn_ret ?_ | refine MI.gn_brk ?_ | refine MI.gn_cont ?_ | refine MI.gk_next ?_ | refine MI.gk_cont ?_ | refine MI.gk_brk ?_ | refine MI.gk_ret ?_ | refine MI.gf_ret ?_ | refine MI.gf_next ?_ | refine MI.gs_asg ?_ | refine MI.gs_asgT ?_ | refine MI.gs_par ?_ | refine MI.gs_put ?_ | refine MI.gs_if ?_ | refine MI.gs_ret ?_ | refine MI.gs_retN ?_ | refine MI.gs_expr ?_ | refine MI.gs_pass ?_ | refine MI.gs_brk ?_ | refine MI.gs_cont ?_ | refine MI.gs_while ?_ | refine MI.gs_for ?_ | refine MI.ge_of ?_ | refine MI.ga_val ?_ | refine MI.ga_new ?_ | refine MI.gl_nil ?_ | refine MI.gl_cons ?_ | refine MI.gr_nil ?_ | refine MI.gr_cons ?_ | refine MI.gi_rng ?_ | refine MI.gi_of ?_ | refine MI.gv_name ?_ | refine MI.gv_int ?_ | refine MI.gv_bl ?_ | refine MI.gv_str ?_ | refine MI.gv_non ?_ | refine MI.gv_ty ?_ | refine MI.gv_glob ?_ | refine MI.gv_bin ?_ | refine MI.gv_neg ?_ | refine MI.gv_not ?_ | refine MI.gv_and ?_ | refine MI.gv_or ?_ | refine MI.gand_one ?_ | refine MI.gand_cons ?_ | refine MI.gor_one ?_ | refine MI.gor_cons ?_ | refine MI.gv_cmp ?_ | refine MI.gv_chain ?_ | refine MI.gv_ife ?_ | refine MI.gv_idx ?_ | refine MI.gv_slice ?_ | refine MI.go_none ?_ | refine MI.go_some ?_ | refine MI.gv_rev ?_ | refine MI.gv_call ?_ | refine MI.gv_callK ?_ | refine MI.gv_bi ?_ | refine MI.gv_comp ?_ | refine MI.gv_pop ?_ | refine MI.gv_append ?_ | refine MI.gv_dct ?_ | refine MI.gt_not ?_ | refine MI.gt_and ?_ | refine MI.gt_or ?_ | refine MI.gandt_one ?_ | refine MI.gandt_cons ?_ | refine MI.gort_one ?_ | refine MI.gort_cons ?_ | refine MI.gt_val ?_ | refine MI.gifs_nil ?_ | refine MI.gifs_cons ?_ | refine MI.gif_true ?_ | refine MI.gif_false ?_ | refine MI.gif_not ?_ | refine MI.gb_add ?_ | refine MI.gb_sub ?_ | refine MI.gm_lt ?_ | refine MI.gm_le ?_ | refine MI.gm_gt ?_ | refine MI.gm_ge ?_ | refine MI.gm_eq ?_ | refine MI.gm_ne ?_ | refine MI.gm_seq ?_ | refine MI.gtr_bl ?_ | refine MI.gtr_int ?_ | refine MI.gbi_int_int ?_ | refine MI.gbi_int_bool ?_ | refine MI.gbi_int_tup ?_ | refine MI.gbi_int_list ?_ | refine MI.gbi_int_dict ?_ | refine MI.gbi_tup_tup ?_ | refine MI.gbi_bl_tup ?_ | refine MI.gbi_bl_list ?_ | refine MI.gbi_bl_dict ?_ | refine MI.gbi_bl_bool ?_ | refine MI.gbi_len_tup ?_ | refine MI.gbi_int1 ?_ | refine MI.gbi_max ?_)
    | refine gb_mul (sm_mul (by assumption) (by assumption)) ?_
    | refine p_low4E (k := x.k + y.k) (by omega) ?_
    | with_reducible refine MI.gv_tup ?_
    | with_reducible refine MI.gv_lst ?_
    | with_reducible refine MI.gb_mod (by first | decide | omega) ?_
    | with_reducible refine MI.gb_div (by first | decide | assumption) ?_
    | with_reducible refine MI.gb_mul (by first | decide | assumption) ?_
    | with_reducible refine MI.gb_pow (by decide) ?_
    | with_reducible refine MI.gif_dec_t (by first | assumption | omega | decide) ?_
    | with_reducible refine MI.gif_dec_f (by first | assumption | omega | decide) ?_
    | refine MI.gif_t rfl ?_
    | refine MI.gif_f rfl ?_
    | with_reducible refine MI.grg_of (by omega) (by omega) ?_
    | refine MI.gx_of rfl ?_
    | refine MI.gbi_of rfl ?_
    | refine ⟨_, rfl, ?_⟩
    | refine ⟨_, _, rfl, rfl, ?_⟩
    | refine MI.glc_next rfl ?_
    | refine MI.glc_end rfl ?_
    | refine MI.glf_next rfl ?_
    | refine MI.glf_end rfl ?_
    | refine ⟨Nat.le_of_ble_eq_true rfl, ?_⟩)
  exact h
theorem p_four {x y : Fo} {B : Nat} (hx : SzF B x) (hy : SzF B y) (hB : B ≤ 40000) (h : Q (fv (mulF x y)) st) : GC G (d + 1) 27 [fv x, fv y] st Q := by
  have a1 : Sm x.a := sm_of hx.a (by omega)
  have a2 : Sm x.b := sm_of hx.b (by omega)
  have a3 : Sm x.c := sm_of hx.c (by omega)
  have a4 : Sm x.d := sm_of hx.d (by omega)
  have b1 : Sm y.a := sm_of hy.a (by omega)
  have b2 : Sm y.b := sm_of hy.b (by omega)
  have b3 : Sm y.c := sm_of hy.c (by omega)
  have b4 : Sm y.d := sm_of hy.d (by omega)
  refine c_law_four ?_
  repeat (first
    | with_reducible (first | refine MI.gss_cons ?_ | refine MI.gss_nil ?_ | refine MI.gn_next ?_ | refine MI.gn_ret ?_ | refine MI.gn_brk ?_ | refine MI.gn_cont ?_ | refine MI.gk_next ?_ | refine MI.gk_cont ?_ | refine MI.gk_brk ?_ | refine MI.gk_ret ?_ | refine MI.gf_ret ?_ | refine MI.gf_next ?_ | refine MI.gs_asg ?_ | refine MI.gs_asgT ?_ | refine MI.gs_par ?_ | refine MI.gs_put ?_ | refine MI.gs_if ?_ | refine MI.gs_ret ?_ | refine MI.gs_retN ?_ | refine MI.gs_expr ?_ | refine MI.gs_pass ?_ | refine MI.gs_brk ?_ | refine MI.gs_cont ?_ | refine MI.gs_while ?_ | refine MI.gs_for ?_ | refine MI.ge_of ?_ | refine MI.ga_val ?_ | refine MI.ga_new ?_ | refine MI.gl_nil ?_ | refine MI.gl_cons ?_ | refine MI.gr_nil ?_ | refine MI.gr_cons ?_ | refine MI.gi_rng ?_ | refine MI.gi_of ?_ | refine MI.gv_name ?_ | refine MI.gv_int ?_ | refine MI.gv_bl ?_ | refine MI.gv_str ?_ | refine MI.gv_non ?_ | refine MI.gv_ty ?_ | refine MI.gv_glob ?_ | refine MI.gv_bin ?_ | refine MI.gv_neg ?_ | refine MI.gv_not ?_ | refine MI.gv_and ?_ | refine MI.gv_or ?_ | refine MI.gand_one ?_ | refine MI.gand_cons ?_ | refine MI.gor_one ?_ | refine MI.gor_cons ?_ | refine MI.gv_cmp ?_ | refine MI.gv_chain ?_ | refine MI.gv_ife ?_ | refine MI.gv_idx ?_ | refine MI.gv_slice ?_ | refine MI.go_none ?_ | refine MI.go_some ?_ | refine MI.gv_rev ?_ | refine MI.gv_call ?_ | refine MI.gv_callK ?_ | refine MI.gv_bi ?_ | refine MI.gv_comp ?_ | refine MI.gv_pop ?_ | refine MI.gv_append ?_ | refine MI.gv_dct ?_ | refine MI.gt_not ?_ | refine MI.gt_and ?_ | refine MI.gt_or ?_ | refine MI.gandt_one ?_ | refine MI.gandt_cons ?_ | refine MI.gort_one ?_ | refine MI.gort_cons ?_ | refine MI.gt_val ?_ | refine MI.gifs_nil ?_ | refine MI.gifs_cons ?_ | refine MI.gif_true ?_ | refine MI.gif_false ?_ | refine MI.gif_not ?_ | refine MI.gb_add ?_ | refine MI.gb_sub ?_ | refine MI.gm_lt ?_ | refine MI.gm_le ?_ | refine MI.gm_gt ?_ | refine MI.gm_ge ?_ | refine MI.gm_eq ?_ | refine MI.gm_ne ?_ | refine MI.gm_seq ?_ | refine MI.gtr_bl ?_ | refine MI.gtr_int ?_ | refine MI.gbi_int_int ?_ | refine MI.gbi_int_bool ?_ | refine MI.gbi_int_tup ?_ | refine MI.gbi_int_list ?_ | refine MI.gbi_int_dict ?_ | refine MI.gbi_tup_tup ?_ | refine MI.gbi_bl_tup ?_ | refine MI.gbi_bl_list ?_ | refine MI.gbi_bl_dict ?_ | refine MI.gbi_bl_bool ?_ | refine MI.gbi_len_tup ?_ | refine MI.gbi_int1 ?_ | refine MI.gbi_max ?_)
    | refine gb_mul (sm_mul (by assumption) (by assumption)) ?_
    | with_reducible refine MI.gv_tup ?_
    | with_reducible refine MI.gv_lst ?_
    | with_reducible refine MI.gb_mod (by first | decide | omega) ?_
    | with_reducible refine MI.gb_div (by first | decide | assumption) ?_
    | with_reducible refine MI.gb_mul (by first | decide | assumption) ?_
    | with_reducible refine MI.gb_pow (by decide) ?_
    | with_reducible refine MI.gif_dec_t (by first | assumption | omega | decide) ?_
    | with_reducible refine MI.gif_dec_f (by first | assumption | omega | decide) ?_
    | refine MI.gif_t rfl ?_
    | refine MI.gif_f rfl ?_
    | with_reducible refine MI.grg_of (by omega) (by omega) ?_
    | refine MI.gx_of rfl ?_
    | refine MI.gbi_of rfl ?_
    | refine ⟨_, rfl, ?_⟩
    | refine ⟨_, _, rfl, rfl, ?_⟩
    | refine MI.glc_next rfl ?_
    | refine MI.glc_end rfl ?_
    | refine MI.glf_next rfl ?_
    | refine MI.glf_end rfl ?_
    | refine ⟨Nat.le_of_ble_eq_true rfl, ?_⟩)
  exact h
theorem p_ltimes {x y : Rt} {B : Nat} (hx : Sz B x) (hy : Sz B y) (hB : B ≤ 40000) (h : Q (rv (timesQ x y)) st) : GC G (d + 2) 28 [rv x, rv y] st Q := by
  refine c_law_times ?_
  repeat (first
    | with_reducible (first | refine MI.gss_cons ?_ | refine MI.gss_nil ?_ | refine MI.gn_next ?_ | refine MI.gn_ret ?_ | refine MI.gn_brk ?_ | refine MI.gn_cont ?_ | refine MI.gk_next ?_ | refine MI.gk_cont ?_ | refine MI.gk_brk ?_ | refine MI.gk_ret ?_ | refine MI.gf_ret ?_ | refine MI.gf_next ?_ | refine MI.gs_asg ?_ | refine MI.gs_asgT ?_ | refine MI.gs_par ?_ | refine MI.gs_put ?_ | refine MI.gs_if ?_ | refine MI.gs_ret ?_ | refine MI.gs_retN ?_ | refine MI.gs_expr ?_ | refine MI.gs_pass ?_ | refine MI.gs_brk ?_ | refine MI.gs_cont ?_ | refine MI.gs_while ?_ | refine MI.gs_for ?_ | refine MI.ge_of ?_ | refine MI.ga_val ?_ | refine MI.ga_new ?_ | refine MI.gl_nil ?_ | refine MI.gl_cons ?_ | refine MI.gr_nil ?_ | refine MI.gr_cons ?_ | refine MI.gi_rng ?_ | refine MI.gi_of ?_ | refine MI.gv_name ?_ | refine MI.gv_int ?_ | refine MI.gv_bl ?_ | refine MI.gv_str ?_ | refine MI.gv_non ?_ | refine MI.gv_ty ?_ | refine MI.gv_glob ?_ | refine MI.gv_bin ?_ | refine MI.gv_neg ?_ | refine MI.gv_not ?_ | refine MI.gv_and ?_ | refine MI.gv_or ?_ | refine MI.gand_one ?_ | refine MI.gand_cons ?_ | refine MI.gor_one ?_ | refine MI.gor_cons ?_ | refine MI.gv_cmp ?_ | refine MI.gv_chain ?_ | refine MI.gv_ife ?_ | refine MI.gv_idx ?_ | refine MI.gv_slice ?_ | refine MI.go_none ?_ | refine MI.go_some ?_ | refine MI.gv_rev ?_ | refine MI.gv_call ?_ | refine MI.gv_callK ?_ | refine MI.gv_bi ?_ | refine MI.gv_comp ?_ | refine MI.gv_pop ?_ | refine MI.gv_append ?_ | refine MI.gv_dct ?_ | refine MI.gt_not ?_ | refine MI.gt_and ?_ | refine MI.gt_or ?_ | refine MI.gandt_one ?_ | refine MI.gandt_cons ?_ | refine MI.gort_one ?_ | refine MI.gort_cons ?_ | refine MI.gt_val ?_ | refine MI.gifs_nil ?_ | refine MI.gifs_cons ?_ | refine MI.gif_true ?_ | refine MI.gif_false ?_ | refine MI.gif_not ?_ | refine MI.gb_add ?_ | refine MI.gb_sub ?_ | refine MI.gm_lt ?_ | refine MI.gm_le ?_ | refine MI.gm_gt ?_ | refine MI.gm_ge ?_ | refine MI.gm_eq ?_ | refine MI.gm_ne ?_ | refine MI.gm_seq ?_ | refine MI.gtr_bl ?_ | refine MI.gtr_int ?_ | refine MI.gbi_int_int ?_ | refine MI.gbi_int_bool ?_ | refine MI.gbi_int_tup ?_ | refine MI.gbi_int_list ?_ | refine MI.gbi_int_dict ?_ | refine MI.gbi_tup_tup ?_ | refine MI.gbi_bl_tup ?_ | refine MI.gbi_bl_list ?_ | refine MI.gbi_bl_dict ?_ | refine MI.gbi_bl_bool ?_ | refine MI.gbi_len_tup ?_ | refine MI.gbi_int1 ?_ | refine MI.gbi_max ?_)
    | refine ⟨_, cut4 x, ?_⟩
    | refine ⟨_, cut4 y, ?_⟩
    | refine p_four hx.f hy.f hB ?_
    | refine p_low24E (k := x.k + y.k) (by omega) ?_
    | with_reducible refine MI.gv_tup ?_
    | with_reducible refine MI.gv_lst ?_
    | with_reducible refine MI.gb_mod (by first | decide | omega) ?_
    | with_reducible refine MI.gb_div (by first | decide | assumption) ?_
    | with_reducible refine MI.gb_mul (by first | decide | assumption) ?_
    | with_reducible refine MI.gb_pow (by decide) ?_
    | with_reducible refine MI.gif_dec_t (by first | assumption | omega | decide) ?_
    | with_reducible refine MI.gif_dec_f (by first | assumption | omega | decide) ?_
    | refine MI.gif_t rfl ?_
    | refine MI.gif_f rfl ?_
    | with_reducible refine MI.grg_of (by omega) (by omega) ?_
    | refine MI.gx_of rfl ?_
    | refine MI.gbi_of rfl ?_
    | refine ⟨_, rfl, ?_⟩
    | refine ⟨_, _, rfl, rfl, ?_⟩
    | refine MI.glc_next rfl ?_
    | refine MI.glc_end rfl ?_
    | refine MI.glf_next rfl ?_
    | refine MI.glf_end rfl ?_
    | refine ⟨Nat.le_of_ble_eq_true rfl, ?_⟩)
  exact h
theorem p_turned_by {x : Rt} {j : Int} (h : Q (rv (turnQ (j % 8).toNat x)) st) : GC G (d + 1) 10 [rv x, .int j] st Q := by
  refine c_turned_by ?_
  repeat (first
    | with_reducible (first | refine MI.gss_cons ?_ | refine MI.gss_nil ?_ | refine MI.gn_next ?_ | refine MI.gn_ret ?_ | refine MI.gn_brk ?_ | refine MI.gn_cont ?_ | refine MI.gk_next ?_ | refine MI.gk_cont ?_ | refine MI.gk_brk ?_ | refine MI.gk_ret ?_ | refine MI.gf_ret ?_ | refine MI.gf_next ?_ | refine MI.gs_asg ?_ | refine MI.gs_asgT ?_ | refine MI.gs_par ?_ | refine MI.gs_put ?_ | refine MI.gs_if ?_ | refine MI.gs_ret ?_ | refine MI.gs_retN ?_ | refine MI.gs_expr ?_ | refine MI.gs_pass ?_ | refine MI.gs_brk ?_ | refine MI.gs_cont ?_ | refine MI.gs_while ?_ | refine MI.gs_for ?_ | refine MI.ge_of ?_ | refine MI.ga_val ?_ | refine MI.ga_new ?_ | refine MI.gl_nil ?_ | refine MI.gl_cons ?_ | refine MI.gr_nil ?_ | refine MI.gr_cons ?_ | refine MI.gi_rng ?_ | refine MI.gi_of ?_ | refine MI.gv_name ?_ | refine MI.gv_int ?_ | refine MI.gv_bl ?_ | refine MI.gv_str ?_ | refine MI.gv_non ?_ | refine MI.gv_ty ?_ | refine MI.gv_glob ?_ | refine MI.gv_bin ?_ | refine MI.gv_neg ?_ | refine MI.gv_not ?_ | refine MI.gv_and ?_ | refine MI.gv_or ?_ | refine MI.gand_one ?_ | refine MI.gand_cons ?_ | refine MI.gor_one ?_ | refine MI.gor_cons ?_ | refine MI.gv_cmp ?_ | refine MI.gv_chain ?_ | refine MI.gv_ife ?_ | refine MI.gv_idx ?_ | refine MI.gv_slice ?_ | refine MI.go_none ?_ | refine MI.go_some ?_ | refine MI.gv_rev ?_ | refine MI.gv_call ?_ | refine MI.gv_callK ?_ | refine MI.gv_bi ?_ | refine MI.gv_comp ?_ | refine MI.gv_pop ?_ | refine MI.gv_append ?_ | refine MI.gv_dct ?_ | refine MI.gt_not ?_ | refine MI.gt_and ?_ | refine MI.gt_or ?_ | refine MI.gandt_one ?_ | refine MI.gandt_cons ?_ | refine MI.gort_one ?_ | refine MI.gort_cons ?_ | refine MI.gt_val ?_ | refine MI.gifs_nil ?_ | refine MI.gifs_cons ?_ | refine MI.gif_true ?_ | refine MI.gif_false ?_ | refine MI.gif_not ?_ | refine MI.gb_add ?_ | refine MI.gb_sub ?_ | refine MI.gm_lt ?_ | refine MI.gm_le ?_ | refine MI.gm_gt ?_ | refine MI.gm_ge ?_ | refine MI.gm_eq ?_ | refine MI.gm_ne ?_ | refine MI.gm_seq ?_ | refine MI.gtr_bl ?_ | refine MI.gtr_int ?_ | refine MI.gbi_int_int ?_ | refine MI.gbi_int_bool ?_ | refine MI.gbi_int_tup ?_ | refine MI.gbi_int_list ?_ | refine MI.gbi_int_dict ?_ | refine MI.gbi_tup_tup ?_ | refine MI.gbi_bl_tup ?_ | refine MI.gbi_bl_list ?_ | refine MI.gbi_bl_dict ?_ | refine MI.gbi_bl_bool ?_ | refine MI.gbi_len_tup ?_ | refine MI.gbi_int1 ?_ | refine MI.gbi_max ?_)
    | with_reducible refine MI.gv_tup ?_
    | with_reducible refine MI.gv_lst ?_
    | with_reducible refine MI.gb_mod (by first | decide | omega) ?_
    | with_reducible refine MI.gb_div (by first | decide | assumption) ?_
    | with_reducible refine MI.gb_mul (by first | decide | assumption) ?_
    | with_reducible refine MI.gb_pow (by decide) ?_
    | with_reducible refine MI.gif_dec_t (by first | assumption | omega | decide) ?_
    | with_reducible refine MI.gif_dec_f (by first | assumption | omega | decide) ?_
    | refine MI.gif_t rfl ?_
    | refine MI.gif_f rfl ?_
    | with_reducible refine MI.grg_of (by omega) (by omega) ?_
    | refine MI.gx_of rfl ?_
    | refine MI.gbi_of rfl ?_
    | refine ⟨_, rfl, ?_⟩
    | refine ⟨_, _, rfl, rfl, ?_⟩
    | refine ⟨Nat.le_of_ble_eq_true rfl, ?_⟩)
  refine glf_all (fun i env st' => True → ∃ z, env = [some (rv x), some (.int j), some (.int (turnQ i x).a), some (.int (turnQ i x).b), some (.int (turnQ i x).c), some (.int (turnQ i x).d), some (.int ((turnQ i x).k : Nat)), z] ∧ st' = st) (fun _ => ⟨none, rfl, rfl⟩) ?_ ?_
  · rintro i v env st' hi h0
    obtain ⟨z, rfl, rfl⟩ := h0 trivial
    refine ⟨_, rfl, ?_⟩
    repeat (first
      | with_reducible (first | refine MI.gss_cons ?_ | refine MI.gss_nil ?_ | refine MI.gn_next ?_ | refine MI.gn_ret ?_ | refine MI.gn_brk ?_ | refine MI.gn_cont ?_ | refine MI.gk_next ?_ | refine MI.gk_cont ?_ | refine MI.gk_brk ?_ | refine MI.gk_ret ?_ | refine MI.gf_ret ?_ | refine MI.gf_next ?_ | refine MI.gs_asg ?_ | refine MI.gs_asgT ?_ | refine MI.gs_par ?_ | refine MI.gs_put ?_ | refine MI.gs_if ?_ | refine MI.gs_ret ?_ | refine MI.gs_retN ?_ | refine MI.gs_expr ?_ | refine MI.gs_pass ?_ | refine MI.gs_brk ?_ | refine MI.gs_cont ?_ | refine MI.gs_while ?_ | refine MI.gs_for ?_ | refine MI.ge_of ?_ | refine MI.ga_val ?_ | refine MI.ga_new ?_ | refine MI.gl_nil ?_ | refine MI.gl_cons ?_ | refine MI.gr_nil ?_ | refine MI.gr_cons ?_ | refine MI.gi_rng ?_ | refine MI.gi_of ?_ | refine MI.gv_name ?_ | refine MI.gv_int ?_ | refine MI.gv_bl ?_ | refine MI.gv_str ?_ | refine MI.gv_non ?_ | refine MI.gv_ty ?_ | refine MI.gv_glob ?_ | refine MI.gv_bin ?_ | refine MI.gv_neg ?_ | refine MI.gv_not ?_ | refine MI.gv_and ?_ | refine MI.gv_or ?_ | refine MI.gand_one ?_ | refine MI.gand_cons ?_ | refine MI.gor_one ?_ | refine MI.gor_cons ?_ | refine MI.gv_cmp ?_ | refine MI.gv_chain ?_ | refine MI.gv_ife ?_ | refine MI.gv_idx ?_ | refine MI.gv_slice ?_ | refine MI.go_none ?_ | refine MI.go_some ?_ | refine MI.gv_rev ?_ | refine MI.gv_call ?_ | refine MI.gv_callK ?_ | refine MI.gv_bi ?_ | refine MI.gv_comp ?_ | refine MI.gv_pop ?_ | refine MI.gv_append ?_ | refine MI.gv_dct ?_ | refine MI.gt_not ?_ | refine MI.gt_and ?_ | refine MI.gt_or ?_ | refine MI.gandt_one ?_ | refine MI.gandt_cons ?_ | refine MI.gort_one ?_ | refine MI.gort_cons ?_ | refine MI.gt_val ?_ | refine MI.gifs_nil ?_ | refine MI.gifs_cons ?_ | refine MI.gif_true ?_ | refine MI.gif_false ?_ | refine MI.gif_not ?_ | refine MI.gb_add ?_ | refine MI.gb_sub ?_ | refine MI.gm_lt ?_ | refine MI.gm_le ?_ | refine MI.gm_gt ?_ | refine MI.gm_ge ?_ | refine MI.gm_eq ?_ | refine MI.gm_ne ?_ | refine MI.gm_seq ?_ | refine MI.gtr_bl ?_ | refine MI.gtr_int ?_ | refine MI.gbi_int_int ?_ | refine MI.gbi_int_bool ?_ | refine MI.gbi_int_tup ?_ | refine MI.gbi_int_list ?_ | refine MI.gbi_int_dict ?_ | refine MI.gbi_tup_tup ?_ | refine MI.gbi_bl_tup ?_ | refine MI.gbi_bl_list ?_ | refine MI.gbi_bl_dict ?_ | refine MI.gbi_bl_bool ?_ | refine MI.gbi_len_tup ?_ | refine MI.gbi_int1 ?_ | refine MI.gbi_max ?_)
      | with_reducible refine MI.gv_tup ?_
      | with_reducible refine MI.gv_lst ?_
      | with_reducible refine MI.gb_mod (by first | decide | omega) ?_
      | with_reducible refine MI.gb_div (by first | decide | assumption) ?_
      | with_reducible refine MI.gb_mul (by first | decide | assumption) ?_
      | with_reducible refine MI.gb_pow (by decide) ?_
      | with_reducible refine MI.gif_dec_t (by first | assumption | omega | decide) ?_
      | with_reducible refine MI.gif_dec_f (by first | assumption | omega | decide) ?_
      | refine MI.gif_t rfl ?_
      | refine MI.gif_f rfl ?_
      | with_reducible refine MI.grg_of (by omega) (by omega) ?_
      | refine MI.gx_of rfl ?_
      | refine MI.gbi_of rfl ?_
      | refine ⟨_, rfl, ?_⟩
      | refine ⟨_, _, rfl, rfl, ?_⟩
      | refine MI.glc_next rfl ?_
      | refine MI.glc_end rfl ?_
      | refine MI.glf_next rfl ?_
      | refine MI.glf_end rfl ?_
      | refine ⟨Nat.le_of_ble_eq_true rfl, ?_⟩)
    exact fun _ => ⟨_, rfl, rfl⟩
  · rintro env st' h0
    obtain ⟨z, rfl, rfl⟩ := h0 trivial
    rw [rngL_len]
    repeat (first
      | with_reducible (first | refine MI.gss_cons ?_ | refine MI.gss_nil ?_ | refine MI.gn_next ?_ | refine MI.gn_ret ?_ | refine MI.gn_brk ?_ | refine MI.gn_cont ?_ | refine MI.gk_next ?_ | refine MI.gk_cont ?_ | refine MI.gk_brk ?_ | refine MI.gk_ret ?_ | refine MI.gf_ret ?_ | refine MI.gf_next ?_ | refine MI.gs_asg ?_ | refine MI.gs_asgT ?_ | refine MI.gs_par ?_ | refine MI.gs_put ?_ | refine MI.gs_if ?_ | refine MI.gs_ret ?_ | refine MI.gs_retN ?_ | refine MI.gs_expr ?_ | refine MI.gs_pass ?_ | refine MI.gs_brk ?_ | refine MI.gs_cont ?_ | refine MI.gs_while ?_ | refine MI.gs_for ?_ | refine MI.ge_of ?_ | refine MI.ga_val ?_ | refine MI.ga_new ?_ | refine MI.gl_nil ?_ | refine MI.gl_cons ?_ | refine MI.gr_nil ?_ | refine MI.gr_cons ?_ | refine MI.gi_rng ?_ | refine MI.gi_of ?_ | refine MI.gv_name ?_ | refine MI.gv_int ?_ | refine MI.gv_bl ?_ | refine MI.gv_str ?_ | refine MI.gv_non ?_ | refine MI.gv_ty ?_ | refine MI.gv_glob ?_ | refine MI.gv_bin ?_ | refine MI.gv_neg ?_ | refine MI.gv_not ?_ | refine MI.gv_and ?_ | refine MI.gv_or ?_ | refine MI.gand_one ?_ | refine MI.gand_cons ?_ | refine MI.gor_one ?_ | refine MI.gor_cons ?_ | refine MI.gv_cmp ?_ | refine MI.gv_chain ?_ | refine MI.gv_ife ?_ | refine MI.gv_idx ?_ | refine MI.gv_slice ?_ | refine MI.go_none ?_ | refine MI.go_some ?_ | refine MI.gv_rev ?_ | refine MI.gv_call ?_ | refine MI.gv_callK ?_ | refine MI.gv_bi ?_ | refine MI.gv_comp ?_ | refine MI.gv_pop ?_ | refine MI.gv_append ?_ | refine MI.gv_dct ?_ | refine MI.gt_not ?_ | refine MI.gt_and ?_ | refine MI.gt_or ?_ | refine MI.gandt_one ?_ | refine MI.gandt_cons ?_ | refine MI.gort_one ?_ | refine MI.gort_cons ?_ | refine MI.gt_val ?_ | refine MI.gifs_nil ?_ | refine MI.gifs_cons ?_ | refine MI.gif_true ?_ | refine MI.gif_false ?_ | refine MI.gif_not ?_ | refine MI.gb_add ?_ | refine MI.gb_sub ?_ | refine MI.gm_lt ?_ | refine MI.gm_le ?_ | refine MI.gm_gt ?_ | refine MI.gm_ge ?_ | refine MI.gm_eq ?_ | refine MI.gm_ne ?_ | refine MI.gm_seq ?_ | refine MI.gtr_bl ?_ | refine MI.gtr_int ?_ | refine MI.gbi_int_int ?_ | refine MI.gbi_int_bool ?_ | refine MI.gbi_int_tup ?_ | refine MI.gbi_int_list ?_ | refine MI.gbi_int_dict ?_ | refine MI.gbi_tup_tup ?_ | refine MI.gbi_bl_tup ?_ | refine MI.gbi_bl_list ?_ | refine MI.gbi_bl_dict ?_ | refine MI.gbi_bl_bool ?_ | refine MI.gbi_len_tup ?_ | refine MI.gbi_int1 ?_ | refine MI.gbi_max ?_)
      | with_reducible refine MI.gv_tup ?_
      | with_reducible refine MI.gv_lst ?_
      | with_reducible refine MI.gb_mod (by first | decide | omega) ?_
      | with_reducible refine MI.gb_div (by first | decide | assumption) ?_
      | with_reducible refine MI.gb_mul (by first | decide | assumption) ?_
      | with_reducible refine MI.gb_pow (by decide) ?_
      | with_reducible refine MI.gif_dec_t (by first | assumption | omega | decide) ?_
      | with_reducible refine MI.gif_dec_f (by first | assumption | omega | decide) ?_
      | refine MI.gif_t rfl ?_
      | refine MI.gif_f rfl ?_
      | with_reducible refine MI.grg_of (by omega) (by omega) ?_
      | refine MI.gx_of rfl ?_
      | refine MI.gbi_of rfl ?_
      | refine ⟨_, rfl, ?_⟩
      | refine ⟨_, _, rfl, rfl, ?_⟩
      | refine MI.glc_next rfl ?_
      | refine MI.glc_end rfl ?_
      | refine MI.glf_next rfl ?_
      | refine MI.glf_end rfl ?_
      | refine ⟨Nat.le_of_ble_eq_true rfl, ?_⟩)
    exact h
theorem p_lturned {x : Rt} {j : Int} (h : Q (rv (turnQ (j % 8).toNat x)) st) : GC G (d + 1) 31 [rv x, .int j] st Q := by
  refine c_law_turned ?_
  repeat (first
    | with_reducible (first | refine MI.gss_cons ?_ | refine MI.gss_nil ?_ | refine MI.gn_next ?_ | refine MI.gn_ret ?_ | refine MI.gn_brk ?_ | refine MI.gn_cont ?_ | refine MI.gk_next ?_ | refine MI.gk_cont ?_ | refine MI.gk_brk ?_ | refine MI.gk_ret ?_ | refine MI.gf_ret ?_ | refine MI.gf_next ?_ | refine MI.gs_asg ?_ | refine MI.gs_asgT ?_ | refine MI.gs_par ?_ | refine MI.gs_put ?_ | refine MI.gs_if ?_ | refine MI.gs_ret ?_ | refine MI.gs_retN ?_ | refine MI.gs_expr ?_ | refine MI.gs_pass ?_ | refine MI.gs_brk ?_ | refine MI.gs_cont ?_ | refine MI.gs_while ?_ | refine MI.gs_for ?_ | refine MI.ge_of ?_ | refine MI.ga_val ?_ | refine MI.ga_new ?_ | refine MI.gl_nil ?_ | refine MI.gl_cons ?_ | refine MI.gr_nil ?_ | refine MI.gr_cons ?_ | refine MI.gi_rng ?_ | refine MI.gi_of ?_ | refine MI.gv_name ?_ | refine MI.gv_int ?_ | refine MI.gv_bl ?_ | refine MI.gv_str ?_ | refine MI.gv_non ?_ | refine MI.gv_ty ?_ | refine MI.gv_glob ?_ | refine MI.gv_bin ?_ | refine MI.gv_neg ?_ | refine MI.gv_not ?_ | refine MI.gv_and ?_ | refine MI.gv_or ?_ | refine MI.gand_one ?_ | refine MI.gand_cons ?_ | refine MI.gor_one ?_ | refine MI.gor_cons ?_ | refine MI.gv_cmp ?_ | refine MI.gv_chain ?_ | refine MI.gv_ife ?_ | refine MI.gv_idx ?_ | refine MI.gv_slice ?_ | refine MI.go_none ?_ | refine MI.go_some ?_ | refine MI.gv_rev ?_ | refine MI.gv_call ?_ | refine MI.gv_callK ?_ | refine MI.gv_bi ?_ | refine MI.gv_comp ?_ | refine MI.gv_pop ?_ | refine MI.gv_append ?_ | refine MI.gv_dct ?_ | refine MI.gt_not ?_ | refine MI.gt_and ?_ | refine MI.gt_or ?_ | refine MI.gandt_one ?_ | refine MI.gandt_cons ?_ | refine MI.gort_one ?_ | refine MI.gort_cons ?_ | refine MI.gt_val ?_ | refine MI.gifs_nil ?_ | refine MI.gifs_cons ?_ | refine MI.gif_true ?_ | refine MI.gif_false ?_ | refine MI.gif_not ?_ | refine MI.gb_add ?_ | refine MI.gb_sub ?_ | refine MI.gm_lt ?_ | refine MI.gm_le ?_ | refine MI.gm_gt ?_ | refine MI.gm_ge ?_ | refine MI.gm_eq ?_ | refine MI.gm_ne ?_ | refine MI.gm_seq ?_ | refine MI.gtr_bl ?_ | refine MI.gtr_int ?_ | refine MI.gbi_int_int ?_ | refine MI.gbi_int_bool ?_ | refine MI.gbi_int_tup ?_ | refine MI.gbi_int_list ?_ | refine MI.gbi_int_dict ?_ | refine MI.gbi_tup_tup ?_ | refine MI.gbi_bl_tup ?_ | refine MI.gbi_bl_list ?_ | refine MI.gbi_bl_dict ?_ | refine MI.gbi_bl_bool ?_ | refine MI.gbi_len_tup ?_ | refine MI.gbi_int1 ?_ | refine MI.gbi_max ?_)
    | with_reducible refine MI.gv_tup ?_
    | with_reducible refine MI.gv_lst ?_
    | with_reducible refine MI.gb_mod (by first | decide | omega) ?_
    | with_reducible refine MI.gb_div (by first | decide | assumption) ?_
    | with_reducible refine MI.gb_mul (by first | decide | assumption) ?_
    | with_reducible refine MI.gb_pow (by decide) ?_
    | with_reducible refine MI.gif_dec_t (by first | assumption | omega | decide) ?_
    | with_reducible refine MI.gif_dec_f (by first | assumption | omega | decide) ?_
    | refine MI.gif_t rfl ?_
    | refine MI.gif_f rfl ?_
    | with_reducible refine MI.grg_of (by omega) (by omega) ?_
    | refine MI.gx_of rfl ?_
    | refine MI.gbi_of rfl ?_
    | refine ⟨_, rfl, ?_⟩
    | refine ⟨_, _, rfl, rfl, ?_⟩
    | refine ⟨Nat.le_of_ble_eq_true rfl, ?_⟩)
  refine glf_all (fun i env st' => True → ∃ z, env = [some (rv x), some (.int j), some (rv (turnQ i x)), z] ∧ st' = st) (fun _ => ⟨none, rfl, rfl⟩) ?_ ?_
  · rintro i v env st' hi h0
    obtain ⟨z, rfl, rfl⟩ := h0 trivial
    refine ⟨_, rfl, ?_⟩
    repeat (first
      | with_reducible (first | refine MI.gss_cons ?_ | refine MI.gss_nil ?_ | refine MI.gn_next ?_ | refine MI.gn_ret ?_ | refine MI.gn_brk ?_ | refine MI.gn_cont ?_ | refine MI.gk_next ?_ | refine MI.gk_cont ?_ | refine MI.gk_brk ?_ | refine MI.gk_ret ?_ | refine MI.gf_ret ?_ | refine MI.gf_next ?_ | refine MI.gs_asg ?_ | refine MI.gs_asgT ?_ | refine MI.gs_par ?_ | refine MI.gs_put ?_ | refine MI.gs_if ?_ | refine MI.gs_ret ?_ | refine MI.gs_retN ?_ | refine MI.gs_expr ?_ | refine MI.gs_pass ?_ | refine MI.gs_brk ?_ | refine MI.gs_cont ?_ | refine MI.gs_while ?_ | refine MI.gs_for ?_ | refine MI.ge_of ?_ | refine MI.ga_val ?_ | refine MI.ga_new ?_ | refine MI.gl_nil ?_ | refine MI.gl_cons ?_ | refine MI.gr_nil ?_ | refine MI.gr_cons ?_ | refine MI.gi_rng ?_ | refine MI.gi_of ?_ | refine MI.gv_name ?_ | refine MI.gv_int ?_ | refine MI.gv_bl ?_ | refine MI.gv_str ?_ | refine MI.gv_non ?_ | refine MI.gv_ty ?_ | refine MI.gv_glob ?_ | refine MI.gv_bin ?_ | refine MI.gv_neg ?_ | refine MI.gv_not ?_ | refine MI.gv_and ?_ | refine MI.gv_or ?_ | refine MI.gand_one ?_ | refine MI.gand_cons ?_ | refine MI.gor_one ?_ | refine MI.gor_cons ?_ | refine MI.gv_cmp ?_ | refine MI.gv_chain ?_ | refine MI.gv_ife ?_ | refine MI.gv_idx ?_ | refine MI.gv_slice ?_ | refine MI.go_none ?_ | refine MI.go_some ?_ | refine MI.gv_rev ?_ | refine MI.gv_call ?_ | refine MI.gv_callK ?_ | refine MI.gv_bi ?_ | refine MI.gv_comp ?_ | refine MI.gv_pop ?_ | refine MI.gv_append ?_ | refine MI.gv_dct ?_ | refine MI.gt_not ?_ | refine MI.gt_and ?_ | refine MI.gt_or ?_ | refine MI.gandt_one ?_ | refine MI.gandt_cons ?_ | refine MI.gort_one ?_ | refine MI.gort_cons ?_ | refine MI.gt_val ?_ | refine MI.gifs_nil ?_ | refine MI.gifs_cons ?_ | refine MI.gif_true ?_ | refine MI.gif_false ?_ | refine MI.gif_not ?_ | refine MI.gb_add ?_ | refine MI.gb_sub ?_ | refine MI.gm_lt ?_ | refine MI.gm_le ?_ | refine MI.gm_gt ?_ | refine MI.gm_ge ?_ | refine MI.gm_eq ?_ | refine MI.gm_ne ?_ | refine MI.gm_seq ?_ | refine MI.gtr_bl ?_ | refine MI.gtr_int ?_ | refine MI.gbi_int_int ?_ | refine MI.gbi_int_bool ?_ | refine MI.gbi_int_tup ?_ | refine MI.gbi_int_list ?_ | refine MI.gbi_int_dict ?_ | refine MI.gbi_tup_tup ?_ | refine MI.gbi_bl_tup ?_ | refine MI.gbi_bl_list ?_ | refine MI.gbi_bl_dict ?_ | refine MI.gbi_bl_bool ?_ | refine MI.gbi_len_tup ?_ | refine MI.gbi_int1 ?_ | refine MI.gbi_max ?_)
      | with_reducible refine MI.gv_tup ?_
      | with_reducible refine MI.gv_lst ?_
      | with_reducible refine MI.gb_mod (by first | decide | omega) ?_
      | with_reducible refine MI.gb_div (by first | decide | assumption) ?_
      | with_reducible refine MI.gb_mul (by first | decide | assumption) ?_
      | with_reducible refine MI.gb_pow (by decide) ?_
      | with_reducible refine MI.gif_dec_t (by first | assumption | omega | decide) ?_
      | with_reducible refine MI.gif_dec_f (by first | assumption | omega | decide) ?_
      | refine MI.gif_t rfl ?_
      | refine MI.gif_f rfl ?_
      | with_reducible refine MI.grg_of (by omega) (by omega) ?_
      | refine MI.gx_of rfl ?_
      | refine MI.gbi_of rfl ?_
      | refine ⟨_, rfl, ?_⟩
      | refine ⟨_, _, rfl, rfl, ?_⟩
      | refine MI.glc_next rfl ?_
      | refine MI.glc_end rfl ?_
      | refine MI.glf_next rfl ?_
      | refine MI.glf_end rfl ?_
      | refine ⟨Nat.le_of_ble_eq_true rfl, ?_⟩)
    exact fun _ => ⟨_, rfl, rfl⟩
  · rintro env st' h0
    obtain ⟨z, rfl, rfl⟩ := h0 trivial
    rw [rngL_len]
    repeat (first
      | with_reducible (first | refine MI.gss_cons ?_ | refine MI.gss_nil ?_ | refine MI.gn_next ?_ | refine MI.gn_ret ?_ | refine MI.gn_brk ?_ | refine MI.gn_cont ?_ | refine MI.gk_next ?_ | refine MI.gk_cont ?_ | refine MI.gk_brk ?_ | refine MI.gk_ret ?_ | refine MI.gf_ret ?_ | refine MI.gf_next ?_ | refine MI.gs_asg ?_ | refine MI.gs_asgT ?_ | refine MI.gs_par ?_ | refine MI.gs_put ?_ | refine MI.gs_if ?_ | refine MI.gs_ret ?_ | refine MI.gs_retN ?_ | refine MI.gs_expr ?_ | refine MI.gs_pass ?_ | refine MI.gs_brk ?_ | refine MI.gs_cont ?_ | refine MI.gs_while ?_ | refine MI.gs_for ?_ | refine MI.ge_of ?_ | refine MI.ga_val ?_ | refine MI.ga_new ?_ | refine MI.gl_nil ?_ | refine MI.gl_cons ?_ | refine MI.gr_nil ?_ | refine MI.gr_cons ?_ | refine MI.gi_rng ?_ | refine MI.gi_of ?_ | refine MI.gv_name ?_ | refine MI.gv_int ?_ | refine MI.gv_bl ?_ | refine MI.gv_str ?_ | refine MI.gv_non ?_ | refine MI.gv_ty ?_ | refine MI.gv_glob ?_ | refine MI.gv_bin ?_ | refine MI.gv_neg ?_ | refine MI.gv_not ?_ | refine MI.gv_and ?_ | refine MI.gv_or ?_ | refine MI.gand_one ?_ | refine MI.gand_cons ?_ | refine MI.gor_one ?_ | refine MI.gor_cons ?_ | refine MI.gv_cmp ?_ | refine MI.gv_chain ?_ | refine MI.gv_ife ?_ | refine MI.gv_idx ?_ | refine MI.gv_slice ?_ | refine MI.go_none ?_ | refine MI.go_some ?_ | refine MI.gv_rev ?_ | refine MI.gv_call ?_ | refine MI.gv_callK ?_ | refine MI.gv_bi ?_ | refine MI.gv_comp ?_ | refine MI.gv_pop ?_ | refine MI.gv_append ?_ | refine MI.gv_dct ?_ | refine MI.gt_not ?_ | refine MI.gt_and ?_ | refine MI.gt_or ?_ | refine MI.gandt_one ?_ | refine MI.gandt_cons ?_ | refine MI.gort_one ?_ | refine MI.gort_cons ?_ | refine MI.gt_val ?_ | refine MI.gifs_nil ?_ | refine MI.gifs_cons ?_ | refine MI.gif_true ?_ | refine MI.gif_false ?_ | refine MI.gif_not ?_ | refine MI.gb_add ?_ | refine MI.gb_sub ?_ | refine MI.gm_lt ?_ | refine MI.gm_le ?_ | refine MI.gm_gt ?_ | refine MI.gm_ge ?_ | refine MI.gm_eq ?_ | refine MI.gm_ne ?_ | refine MI.gm_seq ?_ | refine MI.gtr_bl ?_ | refine MI.gtr_int ?_ | refine MI.gbi_int_int ?_ | refine MI.gbi_int_bool ?_ | refine MI.gbi_int_tup ?_ | refine MI.gbi_int_list ?_ | refine MI.gbi_int_dict ?_ | refine MI.gbi_tup_tup ?_ | refine MI.gbi_bl_tup ?_ | refine MI.gbi_bl_list ?_ | refine MI.gbi_bl_dict ?_ | refine MI.gbi_bl_bool ?_ | refine MI.gbi_len_tup ?_ | refine MI.gbi_int1 ?_ | refine MI.gbi_max ?_)
      | with_reducible refine MI.gv_tup ?_
      | with_reducible refine MI.gv_lst ?_
      | with_reducible refine MI.gb_mod (by first | decide | omega) ?_
      | with_reducible refine MI.gb_div (by first | decide | assumption) ?_
      | with_reducible refine MI.gb_mul (by first | decide | assumption) ?_
      | with_reducible refine MI.gb_pow (by decide) ?_
      | with_reducible refine MI.gif_dec_t (by first | assumption | omega | decide) ?_
      | with_reducible refine MI.gif_dec_f (by first | assumption | omega | decide) ?_
      | refine MI.gif_t rfl ?_
      | refine MI.gif_f rfl ?_
      | with_reducible refine MI.grg_of (by omega) (by omega) ?_
      | refine MI.gx_of rfl ?_
      | refine MI.gbi_of rfl ?_
      | refine ⟨_, rfl, ?_⟩
      | refine ⟨_, _, rfl, rfl, ?_⟩
      | refine MI.glc_next rfl ?_
      | refine MI.glc_end rfl ?_
      | refine MI.glf_next rfl ?_
      | refine MI.glf_end rfl ?_
      | refine ⟨Nat.le_of_ble_eq_true rfl, ?_⟩)
    exact h
theorem p_raised {x : Fo} {z : Int} {n : Nat} (e : z = (n : Nat)) (hn : n ≤ 40000) (h : Q (fv (ups n x)) st) : GC G (d + 1) 25 [.int x.a, .int x.b, .int x.c, .int x.d, .int z] st Q := by
  subst e
  refine c_law_raised ?_
  repeat (first
    | with_reducible (first | refine MI.gss_cons ?_ | refine MI.gss_nil ?_ | refine MI.gn_next ?_ | refine MI.gn_ret ?_ | refine MI.gn_brk ?_ | refine MI.gn_cont ?_ | refine MI.gk_next ?_ | refine MI.gk_cont ?_ | refine MI.gk_brk ?_ | refine MI.gk_ret ?_ | refine MI.gf_ret ?_ | refine MI.gf_next ?_ | refine MI.gs_asg ?_ | refine MI.gs_asgT ?_ | refine MI.gs_par ?_ | refine MI.gs_put ?_ | refine MI.gs_if ?_ | refine MI.gs_ret ?_ | refine MI.gs_retN ?_ | refine MI.gs_expr ?_ | refine MI.gs_pass ?_ | refine MI.gs_brk ?_ | refine MI.gs_cont ?_ | refine MI.gs_while ?_ | refine MI.gs_for ?_ | refine MI.ge_of ?_ | refine MI.ga_val ?_ | refine MI.ga_new ?_ | refine MI.gl_nil ?_ | refine MI.gl_cons ?_ | refine MI.gr_nil ?_ | refine MI.gr_cons ?_ | refine MI.gi_rng ?_ | refine MI.gi_of ?_ | refine MI.gv_name ?_ | refine MI.gv_int ?_ | refine MI.gv_bl ?_ | refine MI.gv_str ?_ | refine MI.gv_non ?_ | refine MI.gv_ty ?_ | refine MI.gv_glob ?_ | refine MI.gv_bin ?_ | refine MI.gv_neg ?_ | refine MI.gv_not ?_ | refine MI.gv_and ?_ | refine MI.gv_or ?_ | refine MI.gand_one ?_ | refine MI.gand_cons ?_ | refine MI.gor_one ?_ | refine MI.gor_cons ?_ | refine MI.gv_cmp ?_ | refine MI.gv_chain ?_ | refine MI.gv_ife ?_ | refine MI.gv_idx ?_ | refine MI.gv_slice ?_ | refine MI.go_none ?_ | refine MI.go_some ?_ | refine MI.gv_rev ?_ | refine MI.gv_call ?_ | refine MI.gv_callK ?_ | refine MI.gv_bi ?_ | refine MI.gv_comp ?_ | refine MI.gv_pop ?_ | refine MI.gv_append ?_ | refine MI.gv_dct ?_ | refine MI.gt_not ?_ | refine MI.gt_and ?_ | refine MI.gt_or ?_ | refine MI.gandt_one ?_ | refine MI.gandt_cons ?_ | refine MI.gort_one ?_ | refine MI.gort_cons ?_ | refine MI.gt_val ?_ | refine MI.gifs_nil ?_ | refine MI.gifs_cons ?_ | refine MI.gif_true ?_ | refine MI.gif_false ?_ | refine MI.gif_not ?_ | refine MI.gb_add ?_ | refine MI.gb_sub ?_ | refine MI.gm_lt ?_ | refine MI.gm_le ?_ | refine MI.gm_gt ?_ | refine MI.gm_ge ?_ | refine MI.gm_eq ?_ | refine MI.gm_ne ?_ | refine MI.gm_seq ?_ | refine MI.gtr_bl ?_ | refine MI.gtr_int ?_ | refine MI.gbi_int_int ?_ | refine MI.gbi_int_bool ?_ | refine MI.gbi_int_tup ?_ | refine MI.gbi_int_list ?_ | refine MI.gbi_int_dict ?_ | refine MI.gbi_tup_tup ?_ | refine MI.gbi_bl_tup ?_ | refine MI.gbi_bl_list ?_ | refine MI.gbi_bl_dict ?_ | refine MI.gbi_bl_bool ?_ | refine MI.gbi_len_tup ?_ | refine MI.gbi_int1 ?_ | refine MI.gbi_max ?_)
    | with_reducible refine MI.gv_tup ?_
    | with_reducible refine MI.gv_lst ?_
    | with_reducible refine MI.gb_mod (by first | decide | omega) ?_
    | with_reducible refine MI.gb_div (by first | decide | assumption) ?_
    | with_reducible refine MI.gb_mul (by first | decide | assumption) ?_
    | with_reducible refine MI.gb_pow (by decide) ?_
    | with_reducible refine MI.gif_dec_t (by first | assumption | omega | decide) ?_
    | with_reducible refine MI.gif_dec_f (by first | assumption | omega | decide) ?_
    | refine MI.gif_t rfl ?_
    | refine MI.gif_f rfl ?_
    | with_reducible refine MI.grg_of (by omega) (by omega) ?_
    | refine MI.gx_of rfl ?_
    | refine MI.gbi_of rfl ?_
    | refine ⟨_, rfl, ?_⟩
    | refine ⟨_, _, rfl, rfl, ?_⟩
    | refine ⟨Nat.le_of_ble_eq_true rfl, ?_⟩)
  refine glf_all (fun i env st' => True → ∃ z, env = [some (.int (ups i x).a), some (.int (ups i x).b), some (.int (ups i x).c), some (.int (ups i x).d), some (.int (n : Nat)), z] ∧ st' = st) (fun _ => ⟨none, rfl, rfl⟩) ?_ ?_
  · rintro i v env st' hi h0
    obtain ⟨z, rfl, rfl⟩ := h0 trivial
    refine ⟨_, rfl, ?_⟩
    repeat (first
      | with_reducible (first | refine MI.gss_cons ?_ | refine MI.gss_nil ?_ | refine MI.gn_next ?_ | refine MI.gn_ret ?_ | refine MI.gn_brk ?_ | refine MI.gn_cont ?_ | refine MI.gk_next ?_ | refine MI.gk_cont ?_ | refine MI.gk_brk ?_ | refine MI.gk_ret ?_ | refine MI.gf_ret ?_ | refine MI.gf_next ?_ | refine MI.gs_asg ?_ | refine MI.gs_asgT ?_ | refine MI.gs_par ?_ | refine MI.gs_put ?_ | refine MI.gs_if ?_ | refine MI.gs_ret ?_ | refine MI.gs_retN ?_ | refine MI.gs_expr ?_ | refine MI.gs_pass ?_ | refine MI.gs_brk ?_ | refine MI.gs_cont ?_ | refine MI.gs_while ?_ | refine MI.gs_for ?_ | refine MI.ge_of ?_ | refine MI.ga_val ?_ | refine MI.ga_new ?_ | refine MI.gl_nil ?_ | refine MI.gl_cons ?_ | refine MI.gr_nil ?_ | refine MI.gr_cons ?_ | refine MI.gi_rng ?_ | refine MI.gi_of ?_ | refine MI.gv_name ?_ | refine MI.gv_int ?_ | refine MI.gv_bl ?_ | refine MI.gv_str ?_ | refine MI.gv_non ?_ | refine MI.gv_ty ?_ | refine MI.gv_glob ?_ | refine MI.gv_bin ?_ | refine MI.gv_neg ?_ | refine MI.gv_not ?_ | refine MI.gv_and ?_ | refine MI.gv_or ?_ | refine MI.gand_one ?_ | refine MI.gand_cons ?_ | refine MI.gor_one ?_ | refine MI.gor_cons ?_ | refine MI.gv_cmp ?_ | refine MI.gv_chain ?_ | refine MI.gv_ife ?_ | refine MI.gv_idx ?_ | refine MI.gv_slice ?_ | refine MI.go_none ?_ | refine MI.go_some ?_ | refine MI.gv_rev ?_ | refine MI.gv_call ?_ | refine MI.gv_callK ?_ | refine MI.gv_bi ?_ | refine MI.gv_comp ?_ | refine MI.gv_pop ?_ | refine MI.gv_append ?_ | refine MI.gv_dct ?_ | refine MI.gt_not ?_ | refine MI.gt_and ?_ | refine MI.gt_or ?_ | refine MI.gandt_one ?_ | refine MI.gandt_cons ?_ | refine MI.gort_one ?_ | refine MI.gort_cons ?_ | refine MI.gt_val ?_ | refine MI.gifs_nil ?_ | refine MI.gifs_cons ?_ | refine MI.gif_true ?_ | refine MI.gif_false ?_ | refine MI.gif_not ?_ | refine MI.gb_add ?_ | refine MI.gb_sub ?_ | refine MI.gm_lt ?_ | refine MI.gm_le ?_ | refine MI.gm_gt ?_ | refine MI.gm_ge ?_ | refine MI.gm_eq ?_ | refine MI.gm_ne ?_ | refine MI.gm_seq ?_ | refine MI.gtr_bl ?_ | refine MI.gtr_int ?_ | refine MI.gbi_int_int ?_ | refine MI.gbi_int_bool ?_ | refine MI.gbi_int_tup ?_ | refine MI.gbi_int_list ?_ | refine MI.gbi_int_dict ?_ | refine MI.gbi_tup_tup ?_ | refine MI.gbi_bl_tup ?_ | refine MI.gbi_bl_list ?_ | refine MI.gbi_bl_dict ?_ | refine MI.gbi_bl_bool ?_ | refine MI.gbi_len_tup ?_ | refine MI.gbi_int1 ?_ | refine MI.gbi_max ?_)
      | with_reducible refine MI.gv_tup ?_
      | with_reducible refine MI.gv_lst ?_
      | with_reducible refine MI.gb_mod (by first | decide | omega) ?_
      | with_reducible refine MI.gb_div (by first | decide | assumption) ?_
      | with_reducible refine MI.gb_mul (by first | decide | assumption) ?_
      | with_reducible refine MI.gb_pow (by decide) ?_
      | with_reducible refine MI.gif_dec_t (by first | assumption | omega | decide) ?_
      | with_reducible refine MI.gif_dec_f (by first | assumption | omega | decide) ?_
      | refine MI.gif_t rfl ?_
      | refine MI.gif_f rfl ?_
      | with_reducible refine MI.grg_of (by omega) (by omega) ?_
      | refine MI.gx_of rfl ?_
      | refine MI.gbi_of rfl ?_
      | refine ⟨_, rfl, ?_⟩
      | refine ⟨_, _, rfl, rfl, ?_⟩
      | refine MI.glc_next rfl ?_
      | refine MI.glc_end rfl ?_
      | refine MI.glf_next rfl ?_
      | refine MI.glf_end rfl ?_
      | refine ⟨Nat.le_of_ble_eq_true rfl, ?_⟩)
    exact fun _ => ⟨_, rfl, rfl⟩
  · rintro env st' h0
    obtain ⟨z, rfl, rfl⟩ := h0 trivial
    rw [rngL_len]
    repeat (first
      | with_reducible (first | refine MI.gss_cons ?_ | refine MI.gss_nil ?_ | refine MI.gn_next ?_ | refine MI.gn_ret ?_ | refine MI.gn_brk ?_ | refine MI.gn_cont ?_ | refine MI.gk_next ?_ | refine MI.gk_cont ?_ | refine MI.gk_brk ?_ | refine MI.gk_ret ?_ | refine MI.gf_ret ?_ | refine MI.gf_next ?_ | refine MI.gs_asg ?_ | refine MI.gs_asgT ?_ | refine MI.gs_par ?_ | refine MI.gs_put ?_ | refine MI.gs_if ?_ | refine MI.gs_ret ?_ | refine MI.gs_retN ?_ | refine MI.gs_expr ?_ | refine MI.gs_pass ?_ | refine MI.gs_brk ?_ | refine MI.gs_cont ?_ | refine MI.gs_while ?_ | refine MI.gs_for ?_ | refine MI.ge_of ?_ | refine MI.ga_val ?_ | refine MI.ga_new ?_ | refine MI.gl_nil ?_ | refine MI.gl_cons ?_ | refine MI.gr_nil ?_ | refine MI.gr_cons ?_ | refine MI.gi_rng ?_ | refine MI.gi_of ?_ | refine MI.gv_name ?_ | refine MI.gv_int ?_ | refine MI.gv_bl ?_ | refine MI.gv_str ?_ | refine MI.gv_non ?_ | refine MI.gv_ty ?_ | refine MI.gv_glob ?_ | refine MI.gv_bin ?_ | refine MI.gv_neg ?_ | refine MI.gv_not ?_ | refine MI.gv_and ?_ | refine MI.gv_or ?_ | refine MI.gand_one ?_ | refine MI.gand_cons ?_ | refine MI.gor_one ?_ | refine MI.gor_cons ?_ | refine MI.gv_cmp ?_ | refine MI.gv_chain ?_ | refine MI.gv_ife ?_ | refine MI.gv_idx ?_ | refine MI.gv_slice ?_ | refine MI.go_none ?_ | refine MI.go_some ?_ | refine MI.gv_rev ?_ | refine MI.gv_call ?_ | refine MI.gv_callK ?_ | refine MI.gv_bi ?_ | refine MI.gv_comp ?_ | refine MI.gv_pop ?_ | refine MI.gv_append ?_ | refine MI.gv_dct ?_ | refine MI.gt_not ?_ | refine MI.gt_and ?_ | refine MI.gt_or ?_ | refine MI.gandt_one ?_ | refine MI.gandt_cons ?_ | refine MI.gort_one ?_ | refine MI.gort_cons ?_ | refine MI.gt_val ?_ | refine MI.gifs_nil ?_ | refine MI.gifs_cons ?_ | refine MI.gif_true ?_ | refine MI.gif_false ?_ | refine MI.gif_not ?_ | refine MI.gb_add ?_ | refine MI.gb_sub ?_ | refine MI.gm_lt ?_ | refine MI.gm_le ?_ | refine MI.gm_gt ?_ | refine MI.gm_ge ?_ | refine MI.gm_eq ?_ | refine MI.gm_ne ?_ | refine MI.gm_seq ?_ | refine MI.gtr_bl ?_ | refine MI.gtr_int ?_ | refine MI.gbi_int_int ?_ | refine MI.gbi_int_bool ?_ | refine MI.gbi_int_tup ?_ | refine MI.gbi_int_list ?_ | refine MI.gbi_int_dict ?_ | refine MI.gbi_tup_tup ?_ | refine MI.gbi_bl_tup ?_ | refine MI.gbi_bl_list ?_ | refine MI.gbi_bl_dict ?_ | refine MI.gbi_bl_bool ?_ | refine MI.gbi_len_tup ?_ | refine MI.gbi_int1 ?_ | refine MI.gbi_max ?_)
      | with_reducible refine MI.gv_tup ?_
      | with_reducible refine MI.gv_lst ?_
      | with_reducible refine MI.gb_mod (by first | decide | omega) ?_
      | with_reducible refine MI.gb_div (by first | decide | assumption) ?_
      | with_reducible refine MI.gb_mul (by first | decide | assumption) ?_
      | with_reducible refine MI.gb_pow (by decide) ?_
      | with_reducible refine MI.gif_dec_t (by first | assumption | omega | decide) ?_
      | with_reducible refine MI.gif_dec_f (by first | assumption | omega | decide) ?_
      | refine MI.gif_t rfl ?_
      | refine MI.gif_f rfl ?_
      | with_reducible refine MI.grg_of (by omega) (by omega) ?_
      | refine MI.gx_of rfl ?_
      | refine MI.gbi_of rfl ?_
      | refine ⟨_, rfl, ?_⟩
      | refine ⟨_, _, rfl, rfl, ?_⟩
      | refine MI.glc_next rfl ?_
      | refine MI.glc_end rfl ?_
      | refine MI.glf_next rfl ?_
      | refine MI.glf_end rfl ?_
      | refine ⟨Nat.le_of_ble_eq_true rfl, ?_⟩)
    exact h
theorem p_lplus {x y : Rt} {B : Nat} (hx : Sz B x) (hy : Sz B y) (hB : B ≤ 40000) (h : Q (rv (plusQ x y)) st) : GC G (d + 2) 26 [rv x, rv y] st Q := by
  have kx := hx.k
  have ky := hy.k
  refine c_law_plus ?_
  repeat (first
    | with_reducible (first | refine MI.gss_cons ?_ | refine MI.gss_nil ?_ | refine MI.gn_next ?_ | refine MI.gn_ret ?_ | refine MI.gn_brk ?_ | refine MI.gn_cont ?_ | refine MI.gk_next ?_ | refine MI.gk_cont ?_ | refine MI.gk_brk ?_ | refine MI.gk_ret ?_ | refine MI.gf_ret ?_ | refine MI.gf_next ?_ | refine MI.gs_asg ?_ | refine MI.gs_asgT ?_ | refine MI.gs_par ?_ | refine MI.gs_put ?_ | refine MI.gs_if ?_ | refine MI.gs_ret ?_ | refine MI.gs_retN ?_ | refine MI.gs_expr ?_ | refine MI.gs_pass ?_ | refine MI.gs_brk ?_ | refine MI.gs_cont ?_ | refine MI.gs_while ?_ | refine MI.gs_for ?_ | refine MI.ge_of ?_ | refine MI.ga_val ?_ | refine MI.ga_new ?_ | refine MI.gl_nil ?_ | refine MI.gl_cons ?_ | refine MI.gr_nil ?_ | refine MI.gr_cons ?_ | refine MI.gi_rng ?_ | refine MI.gi_of ?_ | refine MI.gv_name ?_ | refine MI.gv_int ?_ | refine MI.gv_bl ?_ | refine MI.gv_str ?_ | refine MI.gv_non ?_ | refine MI.gv_ty ?_ | refine MI.gv_glob ?_ | refine MI.gv_bin ?_ | refine MI.gv_neg ?_ | refine MI.gv_not ?_ | refine MI.gv_and ?_ | refine MI.gv_or ?_ | refine MI.gand_one ?_ | refine MI.gand_cons ?_ | refine MI.gor_one ?_ | refine MI.gor_cons ?_ | refine MI.gv_cmp ?_ | refine MI.gv_chain ?_ | refine MI.gv_ife ?_ | refine MI.gv_idx ?_ | refine MI.gv_slice ?_ | refine MI.go_none ?_ | refine MI.go_some ?_ | refine MI.gv_rev ?_ | refine MI.gv_call ?_ | refine MI.gv_callK ?_ | refine MI.gv_bi ?_ | refine MI.gv_comp ?_ | refine MI.gv_pop ?_ | refine MI.gv_append ?_ | refine MI.gv_dct ?_ | refine MI.gt_not ?_ | refine MI.gt_and ?_ | refine MI.gt_or ?_ | refine MI.gandt_one ?_ | refine MI.gandt_cons ?_ | refine MI.gort_one ?_ | refine MI.gort_cons ?_ | refine MI.gt_val ?_ | refine MI.gifs_nil ?_ | refine MI.gifs_cons ?_ | refine MI.gif_true ?_ | refine MI.gif_false ?_ | refine MI.gif_not ?_ | refine MI.gb_add ?_ | refine MI.gb_sub ?_ | refine MI.gm_lt ?_ | refine MI.gm_le ?_ | refine MI.gm_gt ?_ | refine MI.gm_ge ?_ | refine MI.gm_eq ?_ | refine MI.gm_ne ?_ | refine MI.gm_seq ?_ | refine MI.gtr_bl ?_ | refine MI.gtr_int ?_ | refine MI.gbi_int_int ?_ | refine MI.gbi_int_bool ?_ | refine MI.gbi_int_tup ?_ | refine MI.gbi_int_list ?_ | refine MI.gbi_int_dict ?_ | refine MI.gbi_tup_tup ?_ | refine MI.gbi_bl_tup ?_ | refine MI.gbi_bl_list ?_ | refine MI.gbi_bl_dict ?_ | refine MI.gbi_bl_bool ?_ | refine MI.gbi_len_tup ?_ | refine MI.gbi_int1 ?_ | refine MI.gbi_max ?_)
    | refine p_raised (x := four x) (n := max x.k y.k - x.k) (by omega) (by omega) ?_
    | refine p_raised (x := four y) (n := max x.k y.k - y.k) (by omega) (by omega) ?_
    | refine p_low24E (k := max x.k y.k) (by omega) ?_
    | with_reducible refine MI.gv_tup ?_
    | with_reducible refine MI.gv_lst ?_
    | with_reducible refine MI.gb_mod (by first | decide | omega) ?_
    | with_reducible refine MI.gb_div (by first | decide | assumption) ?_
    | with_reducible refine MI.gb_mul (by first | decide | assumption) ?_
    | with_reducible refine MI.gb_pow (by decide) ?_
    | with_reducible refine MI.gif_dec_t (by first | assumption | omega | decide) ?_
    | with_reducible refine MI.gif_dec_f (by first | assumption | omega | decide) ?_
    | refine MI.gif_t rfl ?_
    | refine MI.gif_f rfl ?_
    | with_reducible refine MI.grg_of (by omega) (by omega) ?_
    | refine MI.gx_of rfl ?_
    | refine MI.gbi_of rfl ?_
    | refine ⟨_, rfl, ?_⟩
    | refine ⟨_, _, rfl, rfl, ?_⟩
    | refine MI.glc_next rfl ?_
    | refine MI.glc_end rfl ?_
    | refine MI.glf_next rfl ?_
    | refine MI.glf_end rfl ?_
    | refine ⟨Nat.le_of_ble_eq_true rfl, ?_⟩)
  exact h
theorem p_need_numbers {a b c e : Int} {k : Nat} (h : Q .non st) : GC G (d + 3) 12 [.tup [.int a, .int b, .int c, .int e, .int (k : Nat)]] st Q := by
  refine c_need_numbers ?_
  repeat (first
    | with_reducible (first | refine MI.gss_cons ?_ | refine MI.gss_nil ?_ | refine MI.gn_next ?_ | refine MI.gn_ret ?_ | refine MI.gn_brk ?_ | refine MI.gn_cont ?_ | refine MI.gk_next ?_ | refine MI.gk_cont ?_ | refine MI.gk_brk ?_ | refine MI.gk_ret ?_ | refine MI.gf_ret ?_ | refine MI.gf_next ?_ | refine MI.gs_asg ?_ | refine MI.gs_asgT ?_ | refine MI.gs_par ?_ | refine MI.gs_put ?_ | refine MI.gs_if ?_ | refine MI.gs_ret ?_ | refine MI.gs_retN ?_ | refine MI.gs_expr ?_ | refine MI.gs_pass ?_ | refine MI.gs_brk ?_ | refine MI.gs_cont ?_ | refine MI.gs_while ?_ | refine MI.gs_for ?_ | refine MI.ge_of ?_ | refine MI.ga_val ?_ | refine MI.ga_new ?_ | refine MI.gl_nil ?_ | refine MI.gl_cons ?_ | refine MI.gr_nil ?_ | refine MI.gr_cons ?_ | refine MI.gi_rng ?_ | refine MI.gi_of ?_ | refine MI.gv_name ?_ | refine MI.gv_int ?_ | refine MI.gv_bl ?_ | refine MI.gv_str ?_ | refine MI.gv_non ?_ | refine MI.gv_ty ?_ | refine MI.gv_glob ?_ | refine MI.gv_bin ?_ | refine MI.gv_neg ?_ | refine MI.gv_not ?_ | refine MI.gv_and ?_ | refine MI.gv_or ?_ | refine MI.gand_one ?_ | refine MI.gand_cons ?_ | refine MI.gor_one ?_ | refine MI.gor_cons ?_ | refine MI.gv_cmp ?_ | refine MI.gv_chain ?_ | refine MI.gv_ife ?_ | refine MI.gv_idx ?_ | refine MI.gv_slice ?_ | refine MI.go_none ?_ | refine MI.go_some ?_ | refine MI.gv_rev ?_ | refine MI.gv_call ?_ | refine MI.gv_callK ?_ | refine MI.gv_bi ?_ | refine MI.gv_comp ?_ | refine MI.gv_pop ?_ | refine MI.gv_append ?_ | refine MI.gv_dct ?_ | refine MI.gt_not ?_ | refine MI.gt_and ?_ | refine MI.gt_or ?_ | refine MI.gandt_one ?_ | refine MI.gandt_cons ?_ | refine MI.gort_one ?_ | refine MI.gort_cons ?_ | refine MI.gt_val ?_ | refine MI.gifs_nil ?_ | refine MI.gifs_cons ?_ | refine MI.gif_true ?_ | refine MI.gif_false ?_ | refine MI.gif_not ?_ | refine MI.gb_add ?_ | refine MI.gb_sub ?_ | refine MI.gm_lt ?_ | refine MI.gm_le ?_ | refine MI.gm_gt ?_ | refine MI.gm_ge ?_ | refine MI.gm_eq ?_ | refine MI.gm_ne ?_ | refine MI.gm_seq ?_ | refine MI.gtr_bl ?_ | refine MI.gtr_int ?_ | refine MI.gbi_int_int ?_ | refine MI.gbi_int_bool ?_ | refine MI.gbi_int_tup ?_ | refine MI.gbi_int_list ?_ | refine MI.gbi_int_dict ?_ | refine MI.gbi_tup_tup ?_ | refine MI.gbi_bl_tup ?_ | refine MI.gbi_bl_list ?_ | refine MI.gbi_bl_dict ?_ | refine MI.gbi_bl_bool ?_ | refine MI.gbi_len_tup ?_ | refine MI.gbi_int1 ?_ | refine MI.gbi_max ?_)
    | refine s_isint ?_
    | refine s_isfrom (by omega) ?_
    | with_reducible refine MI.gv_tup ?_
    | with_reducible refine MI.gv_lst ?_
    | with_reducible refine MI.gb_mod (by first | decide | omega) ?_
    | with_reducible refine MI.gb_div (by first | decide | assumption) ?_
    | with_reducible refine MI.gb_mul (by first | decide | assumption) ?_
    | with_reducible refine MI.gb_pow (by decide) ?_
    | with_reducible refine MI.gif_dec_t (by first | assumption | omega | decide) ?_
    | with_reducible refine MI.gif_dec_f (by first | assumption | omega | decide) ?_
    | refine MI.gif_t rfl ?_
    | refine MI.gif_f rfl ?_
    | with_reducible refine MI.grg_of (by omega) (by omega) ?_
    | refine MI.gx_of rfl ?_
    | refine MI.gbi_of rfl ?_
    | refine ⟨_, rfl, ?_⟩
    | refine ⟨_, _, rfl, rfl, ?_⟩
    | refine MI.glc_next rfl ?_
    | refine MI.glc_end rfl ?_
    | refine MI.glf_next rfl ?_
    | refine MI.glf_end rfl ?_
    | refine ⟨Nat.le_of_ble_eq_true rfl, ?_⟩)
  exact h
theorem p_lowest {a b c e z : Int} {k : Nat} (hz : z = (k : Nat)) (h : Q (rv (lowQ k a b c e)) st) : GC G (d + 4) 13 [.int a, .int b, .int c, .int e, .int z] st Q := by
  subst hz
  refine c_lowest_root ?_
  repeat (first
    | with_reducible (first | refine MI.gss_cons ?_ | refine MI.gss_nil ?_ | refine MI.gn_next ?_ | refine MI.gn_ret ?_ | refine MI.gn_brk ?_ | refine MI.gn_cont ?_ | refine MI.gk_next ?_ | refine MI.gk_cont ?_ | refine MI.gk_brk ?_ | refine MI.gk_ret ?_ | refine MI.gf_ret ?_ | refine MI.gf_next ?_ | refine MI.gs_asg ?_ | refine MI.gs_asgT ?_ | refine MI.gs_par ?_ | refine MI.gs_put ?_ | refine MI.gs_if ?_ | refine MI.gs_ret ?_ | refine MI.gs_retN ?_ | refine MI.gs_expr ?_ | refine MI.gs_pass ?_ | refine MI.gs_brk ?_ | refine MI.gs_cont ?_ | refine MI.gs_while ?_ | refine MI.gs_for ?_ | refine MI.ge_of ?_ | refine MI.ga_val ?_ | refine MI.ga_new ?_ | refine MI.gl_nil ?_ | refine MI.gl_cons ?_ | refine MI.gr_nil ?_ | refine MI.gr_cons ?_ | refine MI.gi_rng ?_ | refine MI.gi_of ?_ | refine MI.gv_name ?_ | refine MI.gv_int ?_ | refine MI.gv_bl ?_ | refine MI.gv_str ?_ | refine MI.gv_non ?_ | refine MI.gv_ty ?_ | refine MI.gv_glob ?_ | refine MI.gv_bin ?_ | refine MI.gv_neg ?_ | refine MI.gv_not ?_ | refine MI.gv_and ?_ | refine MI.gv_or ?_ | refine MI.gand_one ?_ | refine MI.gand_cons ?_ | refine MI.gor_one ?_ | refine MI.gor_cons ?_ | refine MI.gv_cmp ?_ | refine MI.gv_chain ?_ | refine MI.gv_ife ?_ | refine MI.gv_idx ?_ | refine MI.gv_slice ?_ | refine MI.go_none ?_ | refine MI.go_some ?_ | refine MI.gv_rev ?_ | refine MI.gv_call ?_ | refine MI.gv_callK ?_ | refine MI.gv_bi ?_ | refine MI.gv_comp ?_ | refine MI.gv_pop ?_ | refine MI.gv_append ?_ | refine MI.gv_dct ?_ | refine MI.gt_not ?_ | refine MI.gt_and ?_ | refine MI.gt_or ?_ | refine MI.gandt_one ?_ | refine MI.gandt_cons ?_ | refine MI.gort_one ?_ | refine MI.gort_cons ?_ | refine MI.gt_val ?_ | refine MI.gifs_nil ?_ | refine MI.gifs_cons ?_ | refine MI.gif_true ?_ | refine MI.gif_false ?_ | refine MI.gif_not ?_ | refine MI.gb_add ?_ | refine MI.gb_sub ?_ | refine MI.gm_lt ?_ | refine MI.gm_le ?_ | refine MI.gm_gt ?_ | refine MI.gm_ge ?_ | refine MI.gm_eq ?_ | refine MI.gm_ne ?_ | refine MI.gm_seq ?_ | refine MI.gtr_bl ?_ | refine MI.gtr_int ?_ | refine MI.gbi_int_int ?_ | refine MI.gbi_int_bool ?_ | refine MI.gbi_int_tup ?_ | refine MI.gbi_int_list ?_ | refine MI.gbi_int_dict ?_ | refine MI.gbi_tup_tup ?_ | refine MI.gbi_bl_tup ?_ | refine MI.gbi_bl_list ?_ | refine MI.gbi_bl_dict ?_ | refine MI.gbi_bl_bool ?_ | refine MI.gbi_len_tup ?_ | refine MI.gbi_int1 ?_ | refine MI.gbi_max ?_)
    | refine p_need_numbers ?_
    | refine p_low4 ?_
    | with_reducible refine MI.gv_tup ?_
    | with_reducible refine MI.gv_lst ?_
    | with_reducible refine MI.gb_mod (by first | decide | omega) ?_
    | with_reducible refine MI.gb_div (by first | decide | assumption) ?_
    | with_reducible refine MI.gb_mul (by first | decide | assumption) ?_
    | with_reducible refine MI.gb_pow (by decide) ?_
    | with_reducible refine MI.gif_dec_t (by first | assumption | omega | decide) ?_
    | with_reducible refine MI.gif_dec_f (by first | assumption | omega | decide) ?_
    | refine MI.gif_t rfl ?_
    | refine MI.gif_f rfl ?_
    | with_reducible refine MI.grg_of (by omega) (by omega) ?_
    | refine MI.gx_of rfl ?_
    | refine MI.gbi_of rfl ?_
    | refine ⟨_, rfl, ?_⟩
    | refine ⟨_, _, rfl, rfl, ?_⟩
    | refine MI.glc_next rfl ?_
    | refine MI.glc_end rfl ?_
    | refine MI.glf_next rfl ?_
    | refine MI.glf_end rfl ?_
    | refine ⟨Nat.le_of_ble_eq_true rfl, ?_⟩)
  exact h
theorem p_rplus {x y : Rt} {B : Nat} (lx : Low x) (ly : Low y) (hx : Sz B x) (hy : Sz B y) (hB : B ≤ 40000) (h : Q (rv (plusQ x y)) st) : GC G (d + 5) 14 [rv x, rv y] st Q := by
  refine c_root_plus ?_
  repeat (first
    | with_reducible (first | refine MI.gss_cons ?_ | refine MI.gss_nil ?_ | refine MI.gn_next ?_ | refine MI.gn_ret ?_ | refine MI.gn_brk ?_ | refine MI.gn_cont ?_ | refine MI.gk_next ?_ | refine MI.gk_cont ?_ | refine MI.gk_brk ?_ | refine MI.gk_ret ?_ | refine MI.gf_ret ?_ | refine MI.gf_next ?_ | refine MI.gs_asg ?_ | refine MI.gs_asgT ?_ | refine MI.gs_par ?_ | refine MI.gs_put ?_ | refine MI.gs_if ?_ | refine MI.gs_ret ?_ | refine MI.gs_retN ?_ | refine MI.gs_expr ?_ | refine MI.gs_pass ?_ | refine MI.gs_brk ?_ | refine MI.gs_cont ?_ | refine MI.gs_while ?_ | refine MI.gs_for ?_ | refine MI.ge_of ?_ | refine MI.ga_val ?_ | refine MI.ga_new ?_ | refine MI.gl_nil ?_ | refine MI.gl_cons ?_ | refine MI.gr_nil ?_ | refine MI.gr_cons ?_ | refine MI.gi_rng ?_ | refine MI.gi_of ?_ | refine MI.gv_name ?_ | refine MI.gv_int ?_ | refine MI.gv_bl ?_ | refine MI.gv_str ?_ | refine MI.gv_non ?_ | refine MI.gv_ty ?_ | refine MI.gv_glob ?_ | refine MI.gv_bin ?_ | refine MI.gv_neg ?_ | refine MI.gv_not ?_ | refine MI.gv_and ?_ | refine MI.gv_or ?_ | refine MI.gand_one ?_ | refine MI.gand_cons ?_ | refine MI.gor_one ?_ | refine MI.gor_cons ?_ | refine MI.gv_cmp ?_ | refine MI.gv_chain ?_ | refine MI.gv_ife ?_ | refine MI.gv_idx ?_ | refine MI.gv_slice ?_ | refine MI.go_none ?_ | refine MI.go_some ?_ | refine MI.gv_rev ?_ | refine MI.gv_call ?_ | refine MI.gv_callK ?_ | refine MI.gv_bi ?_ | refine MI.gv_comp ?_ | refine MI.gv_pop ?_ | refine MI.gv_append ?_ | refine MI.gv_dct ?_ | refine MI.gt_not ?_ | refine MI.gt_and ?_ | refine MI.gt_or ?_ | refine MI.gandt_one ?_ | refine MI.gandt_cons ?_ | refine MI.gort_one ?_ | refine MI.gort_cons ?_ | refine MI.gt_val ?_ | refine MI.gifs_nil ?_ | refine MI.gifs_cons ?_ | refine MI.gif_true ?_ | refine MI.gif_false ?_ | refine MI.gif_not ?_ | refine MI.gb_add ?_ | refine MI.gb_sub ?_ | refine MI.gm_lt ?_ | refine MI.gm_le ?_ | refine MI.gm_gt ?_ | refine MI.gm_ge ?_ | refine MI.gm_eq ?_ | refine MI.gm_ne ?_ | refine MI.gm_seq ?_ | refine MI.gtr_bl ?_ | refine MI.gtr_int ?_ | refine MI.gbi_int_int ?_ | refine MI.gbi_int_bool ?_ | refine MI.gbi_int_tup ?_ | refine MI.gbi_int_list ?_ | refine MI.gbi_int_dict ?_ | refine MI.gbi_tup_tup ?_ | refine MI.gbi_bl_tup ?_ | refine MI.gbi_bl_list ?_ | refine MI.gbi_bl_dict ?_ | refine MI.gbi_bl_bool ?_ | refine MI.gbi_len_tup ?_ | refine MI.gbi_int1 ?_ | refine MI.gbi_max ?_)
    | refine p_need lx ?_
    | refine p_need ly ?_
    | refine p_plus hx hy hB ?_
    | with_reducible refine MI.gv_tup ?_
    | with_reducible refine MI.gv_lst ?_
    | with_reducible refine MI.gb_mod (by first | decide | omega) ?_
    | with_reducible refine MI.gb_div (by first | decide | assumption) ?_
    | with_reducible refine MI.gb_mul (by first | decide | assumption) ?_
    | with_reducible refine MI.gb_pow (by decide) ?_
    | with_reducible refine MI.gif_dec_t (by first | assumption | omega | decide) ?_
    | with_reducible refine MI.gif_dec_f (by first | assumption | omega | decide) ?_
    | refine MI.gif_t rfl ?_
    | refine MI.gif_f rfl ?_
    | with_reducible refine MI.grg_of (by omega) (by omega) ?_
    | refine MI.gx_of rfl ?_
    | refine MI.gbi_of rfl ?_
    | refine ⟨_, rfl, ?_⟩
    | refine ⟨_, _, rfl, rfl, ?_⟩
    | refine MI.glc_next rfl ?_
    | refine MI.glc_end rfl ?_
    | refine MI.glf_next rfl ?_
    | refine MI.glf_end rfl ?_
    | refine ⟨Nat.le_of_ble_eq_true rfl, ?_⟩)
  exact h
theorem p_rtimes {x y : Rt} {B : Nat} (lx : Low x) (ly : Low y) (hx : Sz B x) (hy : Sz B y) (hB : B ≤ 40000) (h : Q (rv (timesQ x y)) st) : GC G (d + 5) 15 [rv x, rv y] st Q := by
  refine c_root_times ?_
  repeat (first
    | with_reducible (first | refine MI.gss_cons ?_ | refine MI.gss_nil ?_ | refine MI.gn_next ?_ | refine MI.gn_ret ?_ | refine MI.gn_brk ?_ | refine MI.gn_cont ?_ | refine MI.gk_next ?_ | refine MI.gk_cont ?_ | refine MI.gk_brk ?_ | refine MI.gk_ret ?_ | refine MI.gf_ret ?_ | refine MI.gf_next ?_ | refine MI.gs_asg ?_ | refine MI.gs_asgT ?_ | refine MI.gs_par ?_ | refine MI.gs_put ?_ | refine MI.gs_if ?_ | refine MI.gs_ret ?_ | refine MI.gs_retN ?_ | refine MI.gs_expr ?_ | refine MI.gs_pass ?_ | refine MI.gs_brk ?_ | refine MI.gs_cont ?_ | refine MI.gs_while ?_ | refine MI.gs_for ?_ | refine MI.ge_of ?_ | refine MI.ga_val ?_ | refine MI.ga_new ?_ | refine MI.gl_nil ?_ | refine MI.gl_cons ?_ | refine MI.gr_nil ?_ | refine MI.gr_cons ?_ | refine MI.gi_rng ?_ | refine MI.gi_of ?_ | refine MI.gv_name ?_ | refine MI.gv_int ?_ | refine MI.gv_bl ?_ | refine MI.gv_str ?_ | refine MI.gv_non ?_ | refine MI.gv_ty ?_ | refine MI.gv_glob ?_ | refine MI.gv_bin ?_ | refine MI.gv_neg ?_ | refine MI.gv_not ?_ | refine MI.gv_and ?_ | refine MI.gv_or ?_ | refine MI.gand_one ?_ | refine MI.gand_cons ?_ | refine MI.gor_one ?_ | refine MI.gor_cons ?_ | refine MI.gv_cmp ?_ | refine MI.gv_chain ?_ | refine MI.gv_ife ?_ | refine MI.gv_idx ?_ | refine MI.gv_slice ?_ | refine MI.go_none ?_ | refine MI.go_some ?_ | refine MI.gv_rev ?_ | refine MI.gv_call ?_ | refine MI.gv_callK ?_ | refine MI.gv_bi ?_ | refine MI.gv_comp ?_ | refine MI.gv_pop ?_ | refine MI.gv_append ?_ | refine MI.gv_dct ?_ | refine MI.gt_not ?_ | refine MI.gt_and ?_ | refine MI.gt_or ?_ | refine MI.gandt_one ?_ | refine MI.gandt_cons ?_ | refine MI.gort_one ?_ | refine MI.gort_cons ?_ | refine MI.gt_val ?_ | refine MI.gifs_nil ?_ | refine MI.gifs_cons ?_ | refine MI.gif_true ?_ | refine MI.gif_false ?_ | refine MI.gif_not ?_ | refine MI.gb_add ?_ | refine MI.gb_sub ?_ | refine MI.gm_lt ?_ | refine MI.gm_le ?_ | refine MI.gm_gt ?_ | refine MI.gm_ge ?_ | refine MI.gm_eq ?_ | refine MI.gm_ne ?_ | refine MI.gm_seq ?_ | refine MI.gtr_bl ?_ | refine MI.gtr_int ?_ | refine MI.gbi_int_int ?_ | refine MI.gbi_int_bool ?_ | refine MI.gbi_int_tup ?_ | refine MI.gbi_int_list ?_ | refine MI.gbi_int_dict ?_ | refine MI.gbi_tup_tup ?_ | refine MI.gbi_bl_tup ?_ | refine MI.gbi_bl_list ?_ | refine MI.gbi_bl_dict ?_ | refine MI.gbi_bl_bool ?_ | refine MI.gbi_len_tup ?_ | refine MI.gbi_int1 ?_ | refine MI.gbi_max ?_)
    | refine p_need lx ?_
    | refine p_need ly ?_
    | refine p_times hx hy hB ?_
    | with_reducible refine MI.gv_tup ?_
    | with_reducible refine MI.gv_lst ?_
    | with_reducible refine MI.gb_mod (by first | decide | omega) ?_
    | with_reducible refine MI.gb_div (by first | decide | assumption) ?_
    | with_reducible refine MI.gb_mul (by first | decide | assumption) ?_
    | with_reducible refine MI.gb_pow (by decide) ?_
    | with_reducible refine MI.gif_dec_t (by first | assumption | omega | decide) ?_
    | with_reducible refine MI.gif_dec_f (by first | assumption | omega | decide) ?_
    | refine MI.gif_t rfl ?_
    | refine MI.gif_f rfl ?_
    | with_reducible refine MI.grg_of (by omega) (by omega) ?_
    | refine MI.gx_of rfl ?_
    | refine MI.gbi_of rfl ?_
    | refine ⟨_, rfl, ?_⟩
    | refine ⟨_, _, rfl, rfl, ?_⟩
    | refine MI.glc_next rfl ?_
    | refine MI.glc_end rfl ?_
    | refine MI.glf_next rfl ?_
    | refine MI.glf_end rfl ?_
    | refine ⟨Nat.le_of_ble_eq_true rfl, ?_⟩)
  exact h
theorem p_rminus {x : Rt} (lx : Low x) (h : Q (rv (negQ x)) st) : GC G (d + 5) 16 [rv x] st Q := by
  refine c_root_minus ?_
  repeat (first
    | with_reducible (first | refine MI.gss_cons ?_ | refine MI.gss_nil ?_ | refine MI.gn_next ?_ | refine MI.gn_ret ?_ | refine MI.gn_brk ?_ | refine MI.gn_cont ?_ | refine MI.gk_next ?_ | refine MI.gk_cont ?_ | refine MI.gk_brk ?_ | refine MI.gk_ret ?_ | refine MI.gf_ret ?_ | refine MI.gf_next ?_ | refine MI.gs_asg ?_ | refine MI.gs_asgT ?_ | refine MI.gs_par ?_ | refine MI.gs_put ?_ | refine MI.gs_if ?_ | refine MI.gs_ret ?_ | refine MI.gs_retN ?_ | refine MI.gs_expr ?_ | refine MI.gs_pass ?_ | refine MI.gs_brk ?_ | refine MI.gs_cont ?_ | refine MI.gs_while ?_ | refine MI.gs_for ?_ | refine MI.ge_of ?_ | refine MI.ga_val ?_ | refine MI.ga_new ?_ | refine MI.gl_nil ?_ | refine MI.gl_cons ?_ | refine MI.gr_nil ?_ | refine MI.gr_cons ?_ | refine MI.gi_rng ?_ | refine MI.gi_of ?_ | refine MI.gv_name ?_ | refine MI.gv_int ?_ | refine MI.gv_bl ?_ | refine MI.gv_str ?_ | refine MI.gv_non ?_ | refine MI.gv_ty ?_ | refine MI.gv_glob ?_ | refine MI.gv_bin ?_ | refine MI.gv_neg ?_ | refine MI.gv_not ?_ | refine MI.gv_and ?_ | refine MI.gv_or ?_ | refine MI.gand_one ?_ | refine MI.gand_cons ?_ | refine MI.gor_one ?_ | refine MI.gor_cons ?_ | refine MI.gv_cmp ?_ | refine MI.gv_chain ?_ | refine MI.gv_ife ?_ | refine MI.gv_idx ?_ | refine MI.gv_slice ?_ | refine MI.go_none ?_ | refine MI.go_some ?_ | refine MI.gv_rev ?_ | refine MI.gv_call ?_ | refine MI.gv_callK ?_ | refine MI.gv_bi ?_ | refine MI.gv_comp ?_ | refine MI.gv_pop ?_ | refine MI.gv_append ?_ | refine MI.gv_dct ?_ | refine MI.gt_not ?_ | refine MI.gt_and ?_ | refine MI.gt_or ?_ | refine MI.gandt_one ?_ | refine MI.gandt_cons ?_ | refine MI.gort_one ?_ | refine MI.gort_cons ?_ | refine MI.gt_val ?_ | refine MI.gifs_nil ?_ | refine MI.gifs_cons ?_ | refine MI.gif_true ?_ | refine MI.gif_false ?_ | refine MI.gif_not ?_ | refine MI.gb_add ?_ | refine MI.gb_sub ?_ | refine MI.gm_lt ?_ | refine MI.gm_le ?_ | refine MI.gm_gt ?_ | refine MI.gm_ge ?_ | refine MI.gm_eq ?_ | refine MI.gm_ne ?_ | refine MI.gm_seq ?_ | refine MI.gtr_bl ?_ | refine MI.gtr_int ?_ | refine MI.gbi_int_int ?_ | refine MI.gbi_int_bool ?_ | refine MI.gbi_int_tup ?_ | refine MI.gbi_int_list ?_ | refine MI.gbi_int_dict ?_ | refine MI.gbi_tup_tup ?_ | refine MI.gbi_bl_tup ?_ | refine MI.gbi_bl_list ?_ | refine MI.gbi_bl_dict ?_ | refine MI.gbi_bl_bool ?_ | refine MI.gbi_len_tup ?_ | refine MI.gbi_int1 ?_ | refine MI.gbi_max ?_)
    | refine p_need lx ?_
    | refine p_minus ?_
    | with_reducible refine MI.gv_tup ?_
    | with_reducible refine MI.gv_lst ?_
    | with_reducible refine MI.gb_mod (by first | decide | omega) ?_
    | with_reducible refine MI.gb_div (by first | decide | assumption) ?_
    | with_reducible refine MI.gb_mul (by first | decide | assumption) ?_
    | with_reducible refine MI.gb_pow (by decide) ?_
    | with_reducible refine MI.gif_dec_t (by first | assumption | omega | decide) ?_
    | with_reducible refine MI.gif_dec_f (by first | assumption | omega | decide) ?_
    | refine MI.gif_t rfl ?_
    | refine MI.gif_f rfl ?_
    | with_reducible refine MI.grg_of (by omega) (by omega) ?_
    | refine MI.gx_of rfl ?_
    | refine MI.gbi_of rfl ?_
    | refine ⟨_, rfl, ?_⟩
    | refine ⟨_, _, rfl, rfl, ?_⟩
    | refine MI.glc_next rfl ?_
    | refine MI.glc_end rfl ?_
    | refine MI.glf_next rfl ?_
    | refine MI.glf_end rfl ?_
    | refine ⟨Nat.le_of_ble_eq_true rfl, ?_⟩)
  exact h
theorem p_conj {x : Rt} (lx : Low x) (h : Q (rv (barQ x)) st) : GC G (d + 5) 17 [rv x] st Q := by
  refine c_conjugate ?_
  repeat (first
    | with_reducible (first | refine MI.gss_cons ?_ | refine MI.gss_nil ?_ | refine MI.gn_next ?_ | refine MI.gn_ret ?_ | refine MI.gn_brk ?_ | refine MI.gn_cont ?_ | refine MI.gk_next ?_ | refine MI.gk_cont ?_ | refine MI.gk_brk ?_ | refine MI.gk_ret ?_ | refine MI.gf_ret ?_ | refine MI.gf_next ?_ | refine MI.gs_asg ?_ | refine MI.gs_asgT ?_ | refine MI.gs_par ?_ | refine MI.gs_put ?_ | refine MI.gs_if ?_ | refine MI.gs_ret ?_ | refine MI.gs_retN ?_ | refine MI.gs_expr ?_ | refine MI.gs_pass ?_ | refine MI.gs_brk ?_ | refine MI.gs_cont ?_ | refine MI.gs_while ?_ | refine MI.gs_for ?_ | refine MI.ge_of ?_ | refine MI.ga_val ?_ | refine MI.ga_new ?_ | refine MI.gl_nil ?_ | refine MI.gl_cons ?_ | refine MI.gr_nil ?_ | refine MI.gr_cons ?_ | refine MI.gi_rng ?_ | refine MI.gi_of ?_ | refine MI.gv_name ?_ | refine MI.gv_int ?_ | refine MI.gv_bl ?_ | refine MI.gv_str ?_ | refine MI.gv_non ?_ | refine MI.gv_ty ?_ | refine MI.gv_glob ?_ | refine MI.gv_bin ?_ | refine MI.gv_neg ?_ | refine MI.gv_not ?_ | refine MI.gv_and ?_ | refine MI.gv_or ?_ | refine MI.gand_one ?_ | refine MI.gand_cons ?_ | refine MI.gor_one ?_ | refine MI.gor_cons ?_ | refine MI.gv_cmp ?_ | refine MI.gv_chain ?_ | refine MI.gv_ife ?_ | refine MI.gv_idx ?_ | refine MI.gv_slice ?_ | refine MI.go_none ?_ | refine MI.go_some ?_ | refine MI.gv_rev ?_ | refine MI.gv_call ?_ | refine MI.gv_callK ?_ | refine MI.gv_bi ?_ | refine MI.gv_comp ?_ | refine MI.gv_pop ?_ | refine MI.gv_append ?_ | refine MI.gv_dct ?_ | refine MI.gt_not ?_ | refine MI.gt_and ?_ | refine MI.gt_or ?_ | refine MI.gandt_one ?_ | refine MI.gandt_cons ?_ | refine MI.gort_one ?_ | refine MI.gort_cons ?_ | refine MI.gt_val ?_ | refine MI.gifs_nil ?_ | refine MI.gifs_cons ?_ | refine MI.gif_true ?_ | refine MI.gif_false ?_ | refine MI.gif_not ?_ | refine MI.gb_add ?_ | refine MI.gb_sub ?_ | refine MI.gm_lt ?_ | refine MI.gm_le ?_ | refine MI.gm_gt ?_ | refine MI.gm_ge ?_ | refine MI.gm_eq ?_ | refine MI.gm_ne ?_ | refine MI.gm_seq ?_ | refine MI.gtr_bl ?_ | refine MI.gtr_int ?_ | refine MI.gbi_int_int ?_ | refine MI.gbi_int_bool ?_ | refine MI.gbi_int_tup ?_ | refine MI.gbi_int_list ?_ | refine MI.gbi_int_dict ?_ | refine MI.gbi_tup_tup ?_ | refine MI.gbi_bl_tup ?_ | refine MI.gbi_bl_list ?_ | refine MI.gbi_bl_dict ?_ | refine MI.gbi_bl_bool ?_ | refine MI.gbi_len_tup ?_ | refine MI.gbi_int1 ?_ | refine MI.gbi_max ?_)
    | refine p_need lx ?_
    | refine p_bar ?_
    | with_reducible refine MI.gv_tup ?_
    | with_reducible refine MI.gv_lst ?_
    | with_reducible refine MI.gb_mod (by first | decide | omega) ?_
    | with_reducible refine MI.gb_div (by first | decide | assumption) ?_
    | with_reducible refine MI.gb_mul (by first | decide | assumption) ?_
    | with_reducible refine MI.gb_pow (by decide) ?_
    | with_reducible refine MI.gif_dec_t (by first | assumption | omega | decide) ?_
    | with_reducible refine MI.gif_dec_f (by first | assumption | omega | decide) ?_
    | refine MI.gif_t rfl ?_
    | refine MI.gif_f rfl ?_
    | with_reducible refine MI.grg_of (by omega) (by omega) ?_
    | refine MI.gx_of rfl ?_
    | refine MI.gbi_of rfl ?_
    | refine ⟨_, rfl, ?_⟩
    | refine ⟨_, _, rfl, rfl, ?_⟩
    | refine MI.glc_next rfl ?_
    | refine MI.glc_end rfl ?_
    | refine MI.glf_next rfl ?_
    | refine MI.glf_end rfl ?_
    | refine ⟨Nat.le_of_ble_eq_true rfl, ?_⟩)
  exact h
theorem p_turned {x : Rt} {j : Int} (lx : Low x) (h : Q (rv (turnQ (j % 8).toNat x)) st) : GC G (d + 5) 18 [rv x, .int j] st Q := by
  refine c_turned ?_
  repeat (first
    | with_reducible (first | refine MI.gss_cons ?_ | refine MI.gss_nil ?_ | refine MI.gn_next ?_ | refine MI.gn_ret ?_ | refine MI.gn_brk ?_ | refine MI.gn_cont ?_ | refine MI.gk_next ?_ | refine MI.gk_cont ?_ | refine MI.gk_brk ?_ | refine MI.gk_ret ?_ | refine MI.gf_ret ?_ | refine MI.gf_next ?_ | refine MI.gs_asg ?_ | refine MI.gs_asgT ?_ | refine MI.gs_par ?_ | refine MI.gs_put ?_ | refine MI.gs_if ?_ | refine MI.gs_ret ?_ | refine MI.gs_retN ?_ | refine MI.gs_expr ?_ | refine MI.gs_pass ?_ | refine MI.gs_brk ?_ | refine MI.gs_cont ?_ | refine MI.gs_while ?_ | refine MI.gs_for ?_ | refine MI.ge_of ?_ | refine MI.ga_val ?_ | refine MI.ga_new ?_ | refine MI.gl_nil ?_ | refine MI.gl_cons ?_ | refine MI.gr_nil ?_ | refine MI.gr_cons ?_ | refine MI.gi_rng ?_ | refine MI.gi_of ?_ | refine MI.gv_name ?_ | refine MI.gv_int ?_ | refine MI.gv_bl ?_ | refine MI.gv_str ?_ | refine MI.gv_non ?_ | refine MI.gv_ty ?_ | refine MI.gv_glob ?_ | refine MI.gv_bin ?_ | refine MI.gv_neg ?_ | refine MI.gv_not ?_ | refine MI.gv_and ?_ | refine MI.gv_or ?_ | refine MI.gand_one ?_ | refine MI.gand_cons ?_ | refine MI.gor_one ?_ | refine MI.gor_cons ?_ | refine MI.gv_cmp ?_ | refine MI.gv_chain ?_ | refine MI.gv_ife ?_ | refine MI.gv_idx ?_ | refine MI.gv_slice ?_ | refine MI.go_none ?_ | refine MI.go_some ?_ | refine MI.gv_rev ?_ | refine MI.gv_call ?_ | refine MI.gv_callK ?_ | refine MI.gv_bi ?_ | refine MI.gv_comp ?_ | refine MI.gv_pop ?_ | refine MI.gv_append ?_ | refine MI.gv_dct ?_ | refine MI.gt_not ?_ | refine MI.gt_and ?_ | refine MI.gt_or ?_ | refine MI.gandt_one ?_ | refine MI.gandt_cons ?_ | refine MI.gort_one ?_ | refine MI.gort_cons ?_ | refine MI.gt_val ?_ | refine MI.gifs_nil ?_ | refine MI.gifs_cons ?_ | refine MI.gif_true ?_ | refine MI.gif_false ?_ | refine MI.gif_not ?_ | refine MI.gb_add ?_ | refine MI.gb_sub ?_ | refine MI.gm_lt ?_ | refine MI.gm_le ?_ | refine MI.gm_gt ?_ | refine MI.gm_ge ?_ | refine MI.gm_eq ?_ | refine MI.gm_ne ?_ | refine MI.gm_seq ?_ | refine MI.gtr_bl ?_ | refine MI.gtr_int ?_ | refine MI.gbi_int_int ?_ | refine MI.gbi_int_bool ?_ | refine MI.gbi_int_tup ?_ | refine MI.gbi_int_list ?_ | refine MI.gbi_int_dict ?_ | refine MI.gbi_tup_tup ?_ | refine MI.gbi_bl_tup ?_ | refine MI.gbi_bl_list ?_ | refine MI.gbi_bl_dict ?_ | refine MI.gbi_bl_bool ?_ | refine MI.gbi_len_tup ?_ | refine MI.gbi_int1 ?_ | refine MI.gbi_max ?_)
    | refine p_need lx ?_
    | refine s_isint ?_
    | refine p_turned_by ?_
    | with_reducible refine MI.gv_tup ?_
    | with_reducible refine MI.gv_lst ?_
    | with_reducible refine MI.gb_mod (by first | decide | omega) ?_
    | with_reducible refine MI.gb_div (by first | decide | assumption) ?_
    | with_reducible refine MI.gb_mul (by first | decide | assumption) ?_
    | with_reducible refine MI.gb_pow (by decide) ?_
    | with_reducible refine MI.gif_dec_t (by first | assumption | omega | decide) ?_
    | with_reducible refine MI.gif_dec_f (by first | assumption | omega | decide) ?_
    | refine MI.gif_t rfl ?_
    | refine MI.gif_f rfl ?_
    | with_reducible refine MI.grg_of (by omega) (by omega) ?_
    | refine MI.gx_of rfl ?_
    | refine MI.gbi_of rfl ?_
    | refine ⟨_, rfl, ?_⟩
    | refine ⟨_, _, rfl, rfl, ?_⟩
    | refine MI.glc_next rfl ?_
    | refine MI.glc_end rfl ?_
    | refine MI.glf_next rfl ?_
    | refine MI.glf_end rfl ?_
    | refine ⟨Nat.le_of_ble_eq_true rfl, ?_⟩)
  exact h
end
end K01
end
section
set_option Elab.async false
set_option linter.all false
set_option maxRecDepth 100000
set_option maxHeartbeats 4000000
set_option exponentiation.threshold 3000
namespace K01
open PySem MI
section
variable {d : Nat} {st : Store} {Q : PV → Store → Prop}
theorem gss_cut {G : List Fn} {env : MI.Env} {s : IS} {ss : List IS} {Q : Out → Store → Prop} (R : Out → Store → Prop) (h : GS G d s env st R) (w : ∀ o st, R o st → GN G d ss Q o st) : GSs G d (s :: ss) env st Q := gss_cons (h.imp w)
theorem gx_lst {n : Nat} {xs : List PV} {i : Int} {v : PV} (h : st[n]? = some (.lst xs)) (ha : L2.atI xs i = some v) (q : Q v st) : GX (.val (.ref n)) (.val (.int i)) st Q := gx_of (by
  show (match st[n]? with
      | some (.lst xs) => some (true, xs)
      | _ => none).bind (fun (p : Bool × List PV) => L2.atI p.2 i) = some v
  rw [h]
  exact ha) q
theorem src_cell {n : Nat} {xs : List PV} (h : st[n]? = some (.lst xs)) : ikSrc .seq [.val (.ref n)] st = some (.cell n) := by
  show (match st[n]? with
    | some (.lst _) => some (Src.cell n)
    | _ => none) = _
  rw [h]
theorem at_cell {n : Nat} {xs : List PV} (i : Nat) (h : st[n]? = some (.lst xs)) : (Src.cell n).at st i = some xs[i]? := by
  show (match st[n]? with
    | some (.lst xs) => some xs[i]?
    | _ => none) = _
  rw [h]
theorem gb_ladd {x y : RV} {xs ys : List PV} {Q : RV → Store → Prop} (hx : mutItems st x = some xs) (hy : mutItems st y = some ys) (hl : xs.length + ys.length ≤ lim) (q : Q (.new (xs ++ ys)) st) : GB .Add x y st Q := by
  refine ⟨.new (xs ++ ys), ?_, q⟩
  have e : binop .Add x y st = (mutItems st x).bind fun xs => (mutItems st y).bind fun ys => bif decide (xs.length + ys.length ≤ lim) then some (.new (xs ++ ys)) else none := by
    cases x with
    | new _ => rfl
    | val x =>
      cases y with
      | new _ => cases x <;> rfl
      | val y => cases x <;> cases y <;> first | rfl | (cases hx; done) | (cases hy; done)
  rw [e, hx, hy]
  show (bif decide (xs.length + ys.length ≤ lim) then _ else _) = _
  rw [decide_eq_true hl]
  rfl
theorem mut_cell {n : Nat} {xs : List PV} (h : st[n]? = some (.lst xs)) : mutItems st (.val (.ref n)) = some xs := by
  show (match st[n]? with
    | some (.lst xs) => some xs
    | _ => none) = _
  rw [h]
theorem gbi_tuple {n : Nat} {xs : List PV} {Q : RV → Store → Prop} (h : st[n]? = some (.lst xs)) (q : Q (.val (.tup xs)) st) : GBi .tuple1 [.val (.ref n)] st Q := gbi_of (r := .val (.tup xs)) (by
  show ((match st[n]? with
      | some (.lst xs) => some (true, xs)
      | _ => none).map fun (p : Bool × List PV) => RV.val (.tup p.2)) = _
  rw [h]
  rfl) q
theorem deck_lt {D L N : Nat} {st : Store} (h : DeckSt D L N st) : D < st.length ∧ L < st.length := by
  obtain ⟨⟨m, n, h1, _⟩, ⟨xs, h2, _⟩, _⟩ := h
  exact ⟨(List.getElem?_eq_some_iff.mp h1).1, (List.getElem?_eq_some_iff.mp h2).1⟩
/-- a pick of a list that was just made -/
theorem s_pickN {D L N : Nat} {xs : List PV} (h : DeckSt D L N st) (hN : N ≤ 1000000) (h0 : 0 < xs.length) (h1 : xs.length ≤ 100000) (q : ∀ v ∈ xs, ∀ st', DeckSt D L (N + 1) st' → Fr D L st st' → Q v st') : GC G (d + 2) 21 [.ref D, .ref st.length] (st ++ [.lst xs]) Q := by
  have lt := deck_lt h
  exact s_pickL h.new hN (by simp) (by omega) (by omega) h0 h1 fun v hv st' d' f' => q v hv st' d' (Fr.new.trans f')
theorem unit_odd : ∀ n : Nat, ((turnQ n ⟨1, 0, 0, 0, 0⟩).a - (turnQ n ⟨1, 0, 0, 0, 0⟩).c) % 2 = 1 ∨ ((turnQ n ⟨1, 0, 0, 0, 0⟩).b - (turnQ n ⟨1, 0, 0, 0, 0⟩).d) % 2 = 1
  | 0 => .inl rfl
  | n + 1 => by
    rcases unit_odd n with h | h
    · exact .inr h
    · left
      show (-(turnQ n ⟨1, 0, 0, 0, 0⟩).d - (turnQ n ⟨1, 0, 0, 0, 0⟩).b) % 2 = 1
      omega
theorem unit_sz (n : Nat) : Sz 1 (turnQ n ⟨1, 0, 0, 0, 0⟩) := Sz.turn (x := ⟨1, 0, 0, 0, 0⟩) ⟨⟨by decide, by decide, by decide, by decide⟩, by decide⟩ n
theorem p_root {D L N : Nat} (h : DeckSt D L N st) (hN : N ≤ 50000) (q : ∀ (x : Rt) (st' : Store), Low x → Sz 2100 x → DeckSt D L (N + 200) st' → Fr D L st st' → Q (rv x) st') : GC G (d + 4) 32 [.ref D] st Q := by
  refine c_law_root ?_
  repeat (first
    | with_reducible (first | refine MI.gss_cons ?_ | refine MI.gss_nil ?_ | refine MI.gn_next ?_ | refine MI.gn_ret ?_ | refine MI.gn_brk ?_ | refine MI.gn_cont ?_ | refine MI.gk_next ?_ | refine MI.gk_cont ?_ | refine MI.gk_brk ?_ | refine MI.gk_ret ?_ | refine MI.gf_ret ?_ | refine MI.gf_next ?_ | refine MI.gs_asg ?_ | refine MI.gs_asgT ?_ | refine MI.gs_par ?_ | refine MI.gs_put ?_ | refine MI.gs_if ?_ | refine MI.gs_ret ?_ | refine MI.gs_retN ?_ | refine MI.gs_expr ?_ | refine MI.gs_pass ?_ | refine MI.gs_brk ?_ | refine MI.gs_cont ?_ | refine MI.gs_while ?_ | refine MI.gs_for ?_ | refine MI.ge_of ?_ | refine MI.ga_val ?_ | refine MI.ga_new ?_ | refine MI.gl_nil ?_ | refine MI.gl_cons ?_ | refine MI.gr_nil ?_ | refine MI.gr_cons ?_ | refine MI.gi_rng ?_ | refine MI.gi_of ?_ | refine MI.gv_name ?_ | refine MI.gv_int ?_ | refine MI.gv_bl ?_ | refine MI.gv_str ?_ | refine MI.gv_non ?_ | refine MI.gv_ty ?_ | refine MI.gv_glob ?_ | refine MI.gv_bin ?_ | refine MI.gv_neg ?_ | refine MI.gv_not ?_ | refine MI.gv_and ?_ | refine MI.gv_or ?_ | refine MI.gand_one ?_ | refine MI.gand_cons ?_ | refine MI.gor_one ?_ | refine MI.gor_cons ?_ | refine MI.gv_cmp ?_ | refine MI.gv_chain ?_ | refine MI.gv_ife ?_ | refine MI.gv_idx ?_ | refine MI.gv_slice ?_ | refine MI.go_none ?_ | refine MI.go_some ?_ | refine MI.gv_rev ?_ | refine MI.gv_call ?_ | refine MI.gv_callK ?_ | refine MI.gv_bi ?_ | refine MI.gv_comp ?_ | refine MI.gv_pop ?_ | refine MI.gv_append ?_ | refine MI.gv_dct ?_ | refine MI.gt_not ?_ | refine MI.gt_and ?_ | refine MI.gt_or ?_ | refine MI.gandt_one ?_ | refine MI.gandt_cons ?_ | refine MI.gort_one ?_ | refine MI.gort_cons ?_ | refine MI.gt_val ?_ | refine MI.gifs_nil ?_ | refine MI.gifs_cons ?_ | refine MI.gif_true ?_ | refine MI.gif_false ?_ | refine MI.gif_not ?_ | refine MI.gb_add ?_ | refine MI.gb_sub ?_ | refine MI.gm_lt ?_ | refine MI.gm_le ?_ | refine MI.gm_gt ?_ | refine MI.gm_ge ?_ | refine MI.gm_eq ?_ | refine MI.gm_ne ?_ | refine MI.gm_seq ?_ | refine MI.gtr_bl ?_ | refine MI.gtr_int ?_ | refine MI.gbi_int_int ?_ | refine MI.gbi_int_bool ?_ | refine MI.gbi_int_tup ?_ | refine MI.gbi_int_list ?_ | refine MI.gbi_int_dict ?_ | refine MI.gbi_tup_tup ?_ | refine MI.gbi_bl_tup ?_ | refine MI.gbi_bl_list ?_ | refine MI.gbi_bl_dict ?_ | refine MI.gbi_bl_bool ?_ | refine MI.gbi_len_tup ?_ | refine MI.gbi_int1 ?_ | refine MI.gbi_max ?_)
    | with_reducible refine MI.gv_tup ?_
    | with_reducible refine MI.gv_lst ?_
    | with_reducible refine MI.gb_mod (by first | decide | omega) ?_
    | with_reducible refine MI.gb_div (by first | decide | assumption) ?_
    | with_reducible refine MI.gb_mul (by first | decide | assumption) ?_
    | with_reducible refine MI.gb_pow (by decide) ?_
    | with_reducible refine MI.gif_dec_t (by first | assumption | omega | decide) ?_
    | with_reducible refine MI.gif_dec_f (by first | assumption | omega | decide) ?_
    | refine MI.gif_t rfl ?_
    | refine MI.gif_f rfl ?_
    | with_reducible refine MI.grg_of (by omega) (by omega) ?_
    | refine MI.gx_of rfl ?_
    | refine MI.gbi_of rfl ?_
    | refine ⟨_, rfl, ?_⟩
    | refine ⟨_, _, rfl, rfl, ?_⟩
    | refine MI.glc_next rfl ?_
    | refine MI.glc_end rfl ?_
    | refine MI.glf_next rfl ?_
    | refine MI.glf_end rfl ?_
    | refine ⟨Nat.le_of_ble_eq_true rfl, ?_⟩)
  refine s_draw h (by omega) (by omega) (by omega) fun way st1 w0 w1 d1 f1 => ?_
  repeat (first
    | with_reducible (first | refine MI.gss_cons ?_ | refine MI.gss_nil ?_ | refine MI.gn_next ?_ | refine MI.gn_ret ?_ | refine MI.gn_brk ?_ | refine MI.gn_cont ?_ | refine MI.gk_next ?_ | refine MI.gk_cont ?_ | refine MI.gk_brk ?_ | refine MI.gk_ret ?_ | refine MI.gf_ret ?_ | refine MI.gf_next ?_ | refine MI.gs_asg ?_ | refine MI.gs_asgT ?_ | refine MI.gs_par ?_ | refine MI.gs_put ?_ | refine MI.gs_if ?_ | refine MI.gs_ret ?_ | refine MI.gs_retN ?_ | refine MI.gs_expr ?_ | refine MI.gs_pass ?_ | refine MI.gs_brk ?_ | refine MI.gs_cont ?_ | refine MI.gs_while ?_ | refine MI.gs_for ?_ | refine MI.ge_of ?_ | refine MI.ga_val ?_ | refine MI.ga_new ?_ | refine MI.gl_nil ?_ | refine MI.gl_cons ?_ | refine MI.gr_nil ?_ | refine MI.gr_cons ?_ | refine MI.gi_rng ?_ | refine MI.gi_of ?_ | refine MI.gv_name ?_ | refine MI.gv_int ?_ | refine MI.gv_bl ?_ | refine MI.gv_str ?_ | refine MI.gv_non ?_ | refine MI.gv_ty ?_ | refine MI.gv_glob ?_ | refine MI.gv_bin ?_ | refine MI.gv_neg ?_ | refine MI.gv_not ?_ | refine MI.gv_and ?_ | refine MI.gv_or ?_ | refine MI.gand_one ?_ | refine MI.gand_cons ?_ | refine MI.gor_one ?_ | refine MI.gor_cons ?_ | refine MI.gv_cmp ?_ | refine MI.gv_chain ?_ | refine MI.gv_ife ?_ | refine MI.gv_idx ?_ | refine MI.gv_slice ?_ | refine MI.go_none ?_ | refine MI.go_some ?_ | refine MI.gv_rev ?_ | refine MI.gv_call ?_ | refine MI.gv_callK ?_ | refine MI.gv_bi ?_ | refine MI.gv_comp ?_ | refine MI.gv_pop ?_ | refine MI.gv_append ?_ | refine MI.gv_dct ?_ | refine MI.gt_not ?_ | refine MI.gt_and ?_ | refine MI.gt_or ?_ | refine MI.gandt_one ?_ | refine MI.gandt_cons ?_ | refine MI.gort_one ?_ | refine MI.gort_cons ?_ | refine MI.gt_val ?_ | refine MI.gifs_nil ?_ | refine MI.gifs_cons ?_ | refine MI.gif_true ?_ | refine MI.gif_false ?_ | refine MI.gif_not ?_ | refine MI.gb_add ?_ | refine MI.gb_sub ?_ | refine MI.gm_lt ?_ | refine MI.gm_le ?_ | refine MI.gm_gt ?_ | refine MI.gm_ge ?_ | refine MI.gm_eq ?_ | refine MI.gm_ne ?_ | refine MI.gm_seq ?_ | refine MI.gtr_bl ?_ | refine MI.gtr_int ?_ | refine MI.gbi_int_int ?_ | refine MI.gbi_int_bool ?_ | refine MI.gbi_int_tup ?_ | refine MI.gbi_int_list ?_ | refine MI.gbi_int_dict ?_ | refine MI.gbi_tup_tup ?_ | refine MI.gbi_bl_tup ?_ | refine MI.gbi_bl_list ?_ | refine MI.gbi_bl_dict ?_ | refine MI.gbi_bl_bool ?_ | refine MI.gbi_len_tup ?_ | refine MI.gbi_int1 ?_ | refine MI.gbi_max ?_)
    | with_reducible refine MI.gv_tup ?_
    | with_reducible refine MI.gv_lst ?_
    | with_reducible refine MI.gb_mod (by first | decide | omega) ?_
    | with_reducible refine MI.gb_div (by first | decide | assumption) ?_
    | with_reducible refine MI.gb_mul (by first | decide | assumption) ?_
    | with_reducible refine MI.gb_pow (by decide) ?_
    | with_reducible refine MI.gif_dec_t (by first | assumption | omega | decide) ?_
    | with_reducible refine MI.gif_dec_f (by first | assumption | omega | decide) ?_
    | refine MI.gif_t rfl ?_
    | refine MI.gif_f rfl ?_
    | with_reducible refine MI.grg_of (by omega) (by omega) ?_
    | refine MI.gx_of rfl ?_
    | refine MI.gbi_of rfl ?_
    | refine ⟨_, rfl, ?_⟩
    | refine ⟨_, _, rfl, rfl, ?_⟩
    | refine MI.glc_next rfl ?_
    | refine MI.glc_end rfl ?_
    | refine MI.glf_next rfl ?_
    | refine MI.glf_end rfl ?_
    | refine ⟨Nat.le_of_ble_eq_true rfl, ?_⟩)
  refine gif_dec (fun h3 => ?_) (fun h3 => ?_)
  · repeat (first
      | with_reducible (first | refine MI.gss_cons ?_ | refine MI.gss_nil ?_ | refine MI.gn_next ?_ | refine MI.gn_ret ?_ | refine MI.gn_brk ?_ | refine MI.gn_cont ?_ | refine MI.gk_next ?_ | refine MI.gk_cont ?_ | refine MI.gk_brk ?_ | refine MI.gk_ret ?_ | refine MI.gf_ret ?_ | refine MI.gf_next ?_ | refine MI.gs_asg ?_ | refine MI.gs_asgT ?_ | refine MI.gs_par ?_ | refine MI.gs_put ?_ | refine MI.gs_if ?_ | refine MI.gs_ret ?_ | refine MI.gs_retN ?_ | refine MI.gs_expr ?_ | refine MI.gs_pass ?_ | refine MI.gs_brk ?_ | refine MI.gs_cont ?_ | refine MI.gs_while ?_ | refine MI.gs_for ?_ | refine MI.ge_of ?_ | refine MI.ga_val ?_ | refine MI.ga_new ?_ | refine MI.gl_nil ?_ | refine MI.gl_cons ?_ | refine MI.gr_nil ?_ | refine MI.gr_cons ?_ | refine MI.gi_rng ?_ | refine MI.gi_of ?_ | refine MI.gv_name ?_ | refine MI.gv_int ?_ | refine MI.gv_bl ?_ | refine MI.gv_str ?_ | refine MI.gv_non ?_ | refine MI.gv_ty ?_ | refine MI.gv_glob ?_ | refine MI.gv_bin ?_ | refine MI.gv_neg ?_ | refine MI.gv_not ?_ | refine MI.gv_and ?_ | refine MI.gv_or ?_ | refine MI.gand_one ?_ | refine MI.gand_cons ?_ | refine MI.gor_one ?_ | refine MI.gor_cons ?_ | refine MI.gv_cmp ?_ | refine MI.gv_chain ?_ | refine MI.gv_ife ?_ | refine MI.gv_idx ?_ | refine MI.gv_slice ?_ | refine MI.go_none ?_ | refine MI.go_some ?_ | refine MI.gv_rev ?_ | refine MI.gv_call ?_ | refine MI.gv_callK ?_ | refine MI.gv_bi ?_ | refine MI.gv_comp ?_ | refine MI.gv_pop ?_ | refine MI.gv_append ?_ | refine MI.gv_dct ?_ | refine MI.gt_not ?_ | refine MI.gt_and ?_ | refine MI.gt_or ?_ | refine MI.gandt_one ?_ | refine MI.gandt_cons ?_ | refine MI.gort_one ?_ | refine MI.gort_cons ?_ | refine MI.gt_val ?_ | refine MI.gifs_nil ?_ | refine MI.gifs_cons ?_ | refine MI.gif_true ?_ | refine MI.gif_false ?_ | refine MI.gif_not ?_ | refine MI.gb_add ?_ | refine MI.gb_sub ?_ | refine MI.gm_lt ?_ | refine MI.gm_le ?_ | refine MI.gm_gt ?_ | refine MI.gm_ge ?_ | refine MI.gm_eq ?_ | refine MI.gm_ne ?_ | refine MI.gm_seq ?_ | refine MI.gtr_bl ?_ | refine MI.gtr_int ?_ | refine MI.gbi_int_int ?_ | refine MI.gbi_int_bool ?_ | refine MI.gbi_int_tup ?_ | refine MI.gbi_int_list ?_ | refine MI.gbi_int_dict ?_ | refine MI.gbi_tup_tup ?_ | refine MI.gbi_bl_tup ?_ | refine MI.gbi_bl_list ?_ | refine MI.gbi_bl_dict ?_ | refine MI.gbi_bl_bool ?_ | refine MI.gbi_len_tup ?_ | refine MI.gbi_int1 ?_ | refine MI.gbi_max ?_)
      | with_reducible refine MI.gv_tup ?_
      | with_reducible refine MI.gv_lst ?_
      | with_reducible refine MI.gb_mod (by first | decide | omega) ?_
      | with_reducible refine MI.gb_div (by first | decide | assumption) ?_
      | with_reducible refine MI.gb_mul (by first | decide | assumption) ?_
      | with_reducible refine MI.gb_pow (by decide) ?_
      | with_reducible refine MI.gif_dec_t (by first | assumption | omega | decide) ?_
      | with_reducible refine MI.gif_dec_f (by first | assumption | omega | decide) ?_
      | refine MI.gif_t rfl ?_
      | refine MI.gif_f rfl ?_
      | with_reducible refine MI.grg_of (by omega) (by omega) ?_
      | refine MI.gx_of rfl ?_
      | refine MI.gbi_of rfl ?_
      | refine ⟨_, rfl, ?_⟩
      | refine ⟨_, _, rfl, rfl, ?_⟩
      | refine MI.glc_next rfl ?_
      | refine MI.glc_end rfl ?_
      | refine MI.glf_next rfl ?_
      | refine MI.glf_end rfl ?_
      | refine ⟨Nat.le_of_ble_eq_true rfl, ?_⟩)
    refine s_draw d1 (by omega) (by omega) (by omega) fun j st2 j0 j1 d2 f2 => ?_
    repeat (first
      | with_reducible (first | refine MI.gss_cons ?_ | refine MI.gss_nil ?_ | refine MI.gn_next ?_ | refine MI.gn_ret ?_ | refine MI.gn_brk ?_ | refine MI.gn_cont ?_ | refine MI.gk_next ?_ | refine MI.gk_cont ?_ | refine MI.gk_brk ?_ | refine MI.gk_ret ?_ | refine MI.gf_ret ?_ | refine MI.gf_next ?_ | refine MI.gs_asg ?_ | refine MI.gs_asgT ?_ | refine MI.gs_par ?_ | refine MI.gs_put ?_ | refine MI.gs_if ?_ | refine MI.gs_ret ?_ | refine MI.gs_retN ?_ | refine MI.gs_expr ?_ | refine MI.gs_pass ?_ | refine MI.gs_brk ?_ | refine MI.gs_cont ?_ | refine MI.gs_while ?_ | refine MI.gs_for ?_ | refine MI.ge_of ?_ | refine MI.ga_val ?_ | refine MI.ga_new ?_ | refine MI.gl_nil ?_ | refine MI.gl_cons ?_ | refine MI.gr_nil ?_ | refine MI.gr_cons ?_ | refine MI.gi_rng ?_ | refine MI.gi_of ?_ | refine MI.gv_name ?_ | refine MI.gv_int ?_ | refine MI.gv_bl ?_ | refine MI.gv_str ?_ | refine MI.gv_non ?_ | refine MI.gv_ty ?_ | refine MI.gv_glob ?_ | refine MI.gv_bin ?_ | refine MI.gv_neg ?_ | refine MI.gv_not ?_ | refine MI.gv_and ?_ | refine MI.gv_or ?_ | refine MI.gand_one ?_ | refine MI.gand_cons ?_ | refine MI.gor_one ?_ | refine MI.gor_cons ?_ | refine MI.gv_cmp ?_ | refine MI.gv_chain ?_ | refine MI.gv_ife ?_ | refine MI.gv_idx ?_ | refine MI.gv_slice ?_ | refine MI.go_none ?_ | refine MI.go_some ?_ | refine MI.gv_rev ?_ | refine MI.gv_call ?_ | refine MI.gv_callK ?_ | refine MI.gv_bi ?_ | refine MI.gv_comp ?_ | refine MI.gv_pop ?_ | refine MI.gv_append ?_ | refine MI.gv_dct ?_ | refine MI.gt_not ?_ | refine MI.gt_and ?_ | refine MI.gt_or ?_ | refine MI.gandt_one ?_ | refine MI.gandt_cons ?_ | refine MI.gort_one ?_ | refine MI.gort_cons ?_ | refine MI.gt_val ?_ | refine MI.gifs_nil ?_ | refine MI.gifs_cons ?_ | refine MI.gif_true ?_ | refine MI.gif_false ?_ | refine MI.gif_not ?_ | refine MI.gb_add ?_ | refine MI.gb_sub ?_ | refine MI.gm_lt ?_ | refine MI.gm_le ?_ | refine MI.gm_gt ?_ | refine MI.gm_ge ?_ | refine MI.gm_eq ?_ | refine MI.gm_ne ?_ | refine MI.gm_seq ?_ | refine MI.gtr_bl ?_ | refine MI.gtr_int ?_ | refine MI.gbi_int_int ?_ | refine MI.gbi_int_bool ?_ | refine MI.gbi_int_tup ?_ | refine MI.gbi_int_list ?_ | refine MI.gbi_int_dict ?_ | refine MI.gbi_tup_tup ?_ | refine MI.gbi_bl_tup ?_ | refine MI.gbi_bl_list ?_ | refine MI.gbi_bl_dict ?_ | refine MI.gbi_bl_bool ?_ | refine MI.gbi_len_tup ?_ | refine MI.gbi_int1 ?_ | refine MI.gbi_max ?_)
      | with_reducible refine MI.gv_tup ?_
      | with_reducible refine MI.gv_lst ?_
      | with_reducible refine MI.gb_mod (by first | decide | omega) ?_
      | with_reducible refine MI.gb_div (by first | decide | assumption) ?_
      | with_reducible refine MI.gb_mul (by first | decide | assumption) ?_
      | with_reducible refine MI.gb_pow (by decide) ?_
      | with_reducible refine MI.gif_dec_t (by first | assumption | omega | decide) ?_
      | with_reducible refine MI.gif_dec_f (by first | assumption | omega | decide) ?_
      | refine MI.gif_t rfl ?_
      | refine MI.gif_f rfl ?_
      | with_reducible refine MI.grg_of (by omega) (by omega) ?_
      | refine MI.gx_of rfl ?_
      | refine MI.gbi_of rfl ?_
      | refine ⟨_, rfl, ?_⟩
      | refine ⟨_, _, rfl, rfl, ?_⟩
      | refine MI.glc_next rfl ?_
      | refine MI.glc_end rfl ?_
      | refine MI.glf_next rfl ?_
      | refine MI.glf_end rfl ?_
      | refine ⟨Nat.le_of_ble_eq_true rfl, ?_⟩)
    refine p_lturned (x := ⟨1, 0, 0, 0, 0⟩) ?_
    have od := unit_odd (j % 8).toNat
    have us := unit_sz (j % 8).toNat
    generalize turnQ (j % 8).toNat ⟨1, 0, 0, 0, 0⟩ = u at *
    repeat (first
      | with_reducible (first | refine MI.gss_cons ?_ | refine MI.gss_nil ?_ | refine MI.gn_next ?_ | refine MI.gn_ret ?_ | refine MI.gn_brk ?_ | refine MI.gn_cont ?_ | refine MI.gk_next ?_ | refine MI.gk_cont ?_ | refine MI.gk_brk ?_ | refine MI.gk_ret ?_ | refine MI.gf_ret ?_ | refine MI.gf_next ?_ | refine MI.gs_asg ?_ | refine MI.gs_asgT ?_ | refine MI.gs_par ?_ | refine MI.gs_put ?_ | refine MI.gs_if ?_ | refine MI.gs_ret ?_ | refine MI.gs_retN ?_ | refine MI.gs_expr ?_ | refine MI.gs_pass ?_ | refine MI.gs_brk ?_ | refine MI.gs_cont ?_ | refine MI.gs_while ?_ | refine MI.gs_for ?_ | refine MI.ge_of ?_ | refine MI.ga_val ?_ | refine MI.ga_new ?_ | refine MI.gl_nil ?_ | refine MI.gl_cons ?_ | refine MI.gr_nil ?_ | refine MI.gr_cons ?_ | refine MI.gi_rng ?_ | refine MI.gi_of ?_ | refine MI.gv_name ?_ | refine MI.gv_int ?_ | refine MI.gv_bl ?_ | refine MI.gv_str ?_ | refine MI.gv_non ?_ | refine MI.gv_ty ?_ | refine MI.gv_glob ?_ | refine MI.gv_bin ?_ | refine MI.gv_neg ?_ | refine MI.gv_not ?_ | refine MI.gv_and ?_ | refine MI.gv_or ?_ | refine MI.gand_one ?_ | refine MI.gand_cons ?_ | refine MI.gor_one ?_ | refine MI.gor_cons ?_ | refine MI.gv_cmp ?_ | refine MI.gv_chain ?_ | refine MI.gv_ife ?_ | refine MI.gv_idx ?_ | refine MI.gv_slice ?_ | refine MI.go_none ?_ | refine MI.go_some ?_ | refine MI.gv_rev ?_ | refine MI.gv_call ?_ | refine MI.gv_callK ?_ | refine MI.gv_bi ?_ | refine MI.gv_comp ?_ | refine MI.gv_pop ?_ | refine MI.gv_append ?_ | refine MI.gv_dct ?_ | refine MI.gt_not ?_ | refine MI.gt_and ?_ | refine MI.gt_or ?_ | refine MI.gandt_one ?_ | refine MI.gandt_cons ?_ | refine MI.gort_one ?_ | refine MI.gort_cons ?_ | refine MI.gt_val ?_ | refine MI.gifs_nil ?_ | refine MI.gifs_cons ?_ | refine MI.gif_true ?_ | refine MI.gif_false ?_ | refine MI.gif_not ?_ | refine MI.gb_add ?_ | refine MI.gb_sub ?_ | refine MI.gm_lt ?_ | refine MI.gm_le ?_ | refine MI.gm_gt ?_ | refine MI.gm_ge ?_ | refine MI.gm_eq ?_ | refine MI.gm_ne ?_ | refine MI.gm_seq ?_ | refine MI.gtr_bl ?_ | refine MI.gtr_int ?_ | refine MI.gbi_int_int ?_ | refine MI.gbi_int_bool ?_ | refine MI.gbi_int_tup ?_ | refine MI.gbi_int_list ?_ | refine MI.gbi_int_dict ?_ | refine MI.gbi_tup_tup ?_ | refine MI.gbi_bl_tup ?_ | refine MI.gbi_bl_list ?_ | refine MI.gbi_bl_dict ?_ | refine MI.gbi_bl_bool ?_ | refine MI.gbi_len_tup ?_ | refine MI.gbi_int1 ?_ | refine MI.gbi_max ?_)
      | refine ⟨_, cut4 u, ?_⟩
      | with_reducible refine MI.gv_tup ?_
      | with_reducible refine MI.gv_lst ?_
      | with_reducible refine MI.gb_mod (by first | decide | omega) ?_
      | with_reducible refine MI.gb_div (by first | decide | assumption) ?_
      | with_reducible refine MI.gb_mul (by first | decide | assumption) ?_
      | with_reducible refine MI.gb_pow (by decide) ?_
      | with_reducible refine MI.gif_dec_t (by first | assumption | omega | decide) ?_
      | with_reducible refine MI.gif_dec_f (by first | assumption | omega | decide) ?_
      | refine MI.gif_t rfl ?_
      | refine MI.gif_f rfl ?_
      | with_reducible refine MI.grg_of (by omega) (by omega) ?_
      | refine MI.gx_of rfl ?_
      | refine MI.gbi_of rfl ?_
      | refine ⟨_, rfl, ?_⟩
      | refine ⟨_, _, rfl, rfl, ?_⟩
      | refine MI.glc_next rfl ?_
      | refine MI.glc_end rfl ?_
      | refine MI.glf_next rfl ?_
      | refine MI.glf_end rfl ?_
      | refine ⟨Nat.le_of_ble_eq_true rfl, ?_⟩)
    refine s_pickN d2 (by omega) (by decide) (by decide) fun v hv st3 d3 f3 => ?_
    have hv2 : ∃ c : Nat, v = .int (c : Nat) ∧ c ≤ 500 := by
      simp only [List.mem_cons, List.not_mem_nil, or_false] at hv
      rcases hv with rfl | rfl | rfl | rfl | rfl | rfl
      · exact ⟨1, rfl, by decide⟩
      · exact ⟨2, rfl, by decide⟩
      · exact ⟨3, rfl, by decide⟩
      · exact ⟨40, rfl, by decide⟩
      · exact ⟨499, rfl, by decide⟩
      · exact ⟨500, rfl, by decide⟩
    obtain ⟨c, rfl, c1⟩ := hv2
    repeat (first
      | with_reducible (first | refine MI.gss_cons ?_ | refine MI.gss_nil ?_ | refine MI.gn_next ?_ | refine MI.gn_ret ?_ | refine MI.gn_brk ?_ | refine MI.gn_cont ?_ | refine MI.gk_next ?_ | refine MI.gk_cont ?_ | refine MI.gk_brk ?_ | refine MI.gk_ret ?_ | refine MI.gf_ret ?_ | refine MI.gf_next ?_ | refine MI.gs_asg ?_ | refine MI.gs_asgT ?_ | refine MI.gs_par ?_ | refine MI.gs_put ?_ | refine MI.gs_if ?_ | refine MI.gs_ret ?_ | refine MI.gs_retN ?_ | refine MI.gs_expr ?_ | refine MI.gs_pass ?_ | refine MI.gs_brk ?_ | refine MI.gs_cont ?_ | refine MI.gs_while ?_ | refine MI.gs_for ?_ | refine MI.ge_of ?_ | refine MI.ga_val ?_ | refine MI.ga_new ?_ | refine MI.gl_nil ?_ | refine MI.gl_cons ?_ | refine MI.gr_nil ?_ | refine MI.gr_cons ?_ | refine MI.gi_rng ?_ | refine MI.gi_of ?_ | refine MI.gv_name ?_ | refine MI.gv_int ?_ | refine MI.gv_bl ?_ | refine MI.gv_str ?_ | refine MI.gv_non ?_ | refine MI.gv_ty ?_ | refine MI.gv_glob ?_ | refine MI.gv_bin ?_ | refine MI.gv_neg ?_ | refine MI.gv_not ?_ | refine MI.gv_and ?_ | refine MI.gv_or ?_ | refine MI.gand_one ?_ | refine MI.gand_cons ?_ | refine MI.gor_one ?_ | refine MI.gor_cons ?_ | refine MI.gv_cmp ?_ | refine MI.gv_chain ?_ | refine MI.gv_ife ?_ | refine MI.gv_idx ?_ | refine MI.gv_slice ?_ | refine MI.go_none ?_ | refine MI.go_some ?_ | refine MI.gv_rev ?_ | refine MI.gv_call ?_ | refine MI.gv_callK ?_ | refine MI.gv_bi ?_ | refine MI.gv_comp ?_ | refine MI.gv_pop ?_ | refine MI.gv_append ?_ | refine MI.gv_dct ?_ | refine MI.gt_not ?_ | refine MI.gt_and ?_ | refine MI.gt_or ?_ | refine MI.gandt_one ?_ | refine MI.gandt_cons ?_ | refine MI.gort_one ?_ | refine MI.gort_cons ?_ | refine MI.gt_val ?_ | refine MI.gifs_nil ?_ | refine MI.gifs_cons ?_ | refine MI.gif_true ?_ | refine MI.gif_false ?_ | refine MI.gif_not ?_ | refine MI.gb_add ?_ | refine MI.gb_sub ?_ | refine MI.gm_lt ?_ | refine MI.gm_le ?_ | refine MI.gm_gt ?_ | refine MI.gm_ge ?_ | refine MI.gm_eq ?_ | refine MI.gm_ne ?_ | refine MI.gm_seq ?_ | refine MI.gtr_bl ?_ | refine MI.gtr_int ?_ | refine MI.gbi_int_int ?_ | refine MI.gbi_int_bool ?_ | refine MI.gbi_int_tup ?_ | refine MI.gbi_int_list ?_ | refine MI.gbi_int_dict ?_ | refine MI.gbi_tup_tup ?_ | refine MI.gbi_bl_tup ?_ | refine MI.gbi_bl_list ?_ | refine MI.gbi_bl_dict ?_ | refine MI.gbi_bl_bool ?_ | refine MI.gbi_len_tup ?_ | refine MI.gbi_int1 ?_ | refine MI.gbi_max ?_)
      | refine gb_tadd (xs := [_, _, _, _]) (Nat.le_of_ble_eq_true rfl) ?_
      | with_reducible refine MI.gv_tup ?_
      | with_reducible refine MI.gv_lst ?_
      | with_reducible refine MI.gb_mod (by first | decide | omega) ?_
      | with_reducible refine MI.gb_div (by first | decide | assumption) ?_
      | with_reducible refine MI.gb_mul (by first | decide | assumption) ?_
      | with_reducible refine MI.gb_pow (by decide) ?_
      | with_reducible refine MI.gif_dec_t (by first | assumption | omega | decide) ?_
      | with_reducible refine MI.gif_dec_f (by first | assumption | omega | decide) ?_
      | refine MI.gif_t rfl ?_
      | refine MI.gif_f rfl ?_
      | with_reducible refine MI.grg_of (by omega) (by omega) ?_
      | refine MI.gx_of rfl ?_
      | refine MI.gbi_of rfl ?_
      | refine ⟨_, rfl, ?_⟩
      | refine ⟨_, _, rfl, rfl, ?_⟩
      | refine MI.glc_next rfl ?_
      | refine MI.glc_end rfl ?_
      | refine MI.glf_next rfl ?_
      | refine MI.glf_end rfl ?_
      | refine ⟨Nat.le_of_ble_eq_true rfl, ?_⟩)
    refine s_pickN d3 (by omega) (by simp) (by simp) fun v hv st4 d4 f4 => ?_
    repeat (first
      | with_reducible (first | refine MI.gss_cons ?_ | refine MI.gss_nil ?_ | refine MI.gn_next ?_ | refine MI.gn_ret ?_ | refine MI.gn_brk ?_ | refine MI.gn_cont ?_ | refine MI.gk_next ?_ | refine MI.gk_cont ?_ | refine MI.gk_brk ?_ | refine MI.gk_ret ?_ | refine MI.gf_ret ?_ | refine MI.gf_next ?_ | refine MI.gs_asg ?_ | refine MI.gs_asgT ?_ | refine MI.gs_par ?_ | refine MI.gs_put ?_ | refine MI.gs_if ?_ | refine MI.gs_ret ?_ | refine MI.gs_retN ?_ | refine MI.gs_expr ?_ | refine MI.gs_pass ?_ | refine MI.gs_brk ?_ | refine MI.gs_cont ?_ | refine MI.gs_while ?_ | refine MI.gs_for ?_ | refine MI.ge_of ?_ | refine MI.ga_val ?_ | refine MI.ga_new ?_ | refine MI.gl_nil ?_ | refine MI.gl_cons ?_ | refine MI.gr_nil ?_ | refine MI.gr_cons ?_ | refine MI.gi_rng ?_ | refine MI.gi_of ?_ | refine MI.gv_name ?_ | refine MI.gv_int ?_ | refine MI.gv_bl ?_ | refine MI.gv_str ?_ | refine MI.gv_non ?_ | refine MI.gv_ty ?_ | refine MI.gv_glob ?_ | refine MI.gv_bin ?_ | refine MI.gv_neg ?_ | refine MI.gv_not ?_ | refine MI.gv_and ?_ | refine MI.gv_or ?_ | refine MI.gand_one ?_ | refine MI.gand_cons ?_ | refine MI.gor_one ?_ | refine MI.gor_cons ?_ | refine MI.gv_cmp ?_ | refine MI.gv_chain ?_ | refine MI.gv_ife ?_ | refine MI.gv_idx ?_ | refine MI.gv_slice ?_ | refine MI.go_none ?_ | refine MI.go_some ?_ | refine MI.gv_rev ?_ | refine MI.gv_call ?_ | refine MI.gv_callK ?_ | refine MI.gv_bi ?_ | refine MI.gv_comp ?_ | refine MI.gv_pop ?_ | refine MI.gv_append ?_ | refine MI.gv_dct ?_ | refine MI.gt_not ?_ | refine MI.gt_and ?_ | refine MI.gt_or ?_ | refine MI.gandt_one ?_ | refine MI.gandt_cons ?_ | refine MI.gort_one ?_ | refine MI.gort_cons ?_ | refine MI.gt_val ?_ | refine MI.gifs_nil ?_ | refine MI.gifs_cons ?_ | refine MI.gif_true ?_ | refine MI.gif_false ?_ | refine MI.gif_not ?_ | refine MI.gb_add ?_ | refine MI.gb_sub ?_ | refine MI.gm_lt ?_ | refine MI.gm_le ?_ | refine MI.gm_gt ?_ | refine MI.gm_ge ?_ | refine MI.gm_eq ?_ | refine MI.gm_ne ?_ | refine MI.gm_seq ?_ | refine MI.gtr_bl ?_ | refine MI.gtr_int ?_ | refine MI.gbi_int_int ?_ | refine MI.gbi_int_bool ?_ | refine MI.gbi_int_tup ?_ | refine MI.gbi_int_list ?_ | refine MI.gbi_int_dict ?_ | refine MI.gbi_tup_tup ?_ | refine MI.gbi_bl_tup ?_ | refine MI.gbi_bl_list ?_ | refine MI.gbi_bl_dict ?_ | refine MI.gbi_bl_bool ?_ | refine MI.gbi_len_tup ?_ | refine MI.gbi_int1 ?_ | refine MI.gbi_max ?_)
      | with_reducible refine MI.gv_tup ?_
      | with_reducible refine MI.gv_lst ?_
      | with_reducible refine MI.gb_mod (by first | decide | omega) ?_
      | with_reducible refine MI.gb_div (by first | decide | assumption) ?_
      | with_reducible refine MI.gb_mul (by first | decide | assumption) ?_
      | with_reducible refine MI.gb_pow (by decide) ?_
      | with_reducible refine MI.gif_dec_t (by first | assumption | omega | decide) ?_
      | with_reducible refine MI.gif_dec_f (by first | assumption | omega | decide) ?_
      | refine MI.gif_t rfl ?_
      | refine MI.gif_f rfl ?_
      | with_reducible refine MI.grg_of (by omega) (by omega) ?_
      | refine MI.gx_of rfl ?_
      | refine MI.gbi_of rfl ?_
      | refine ⟨_, rfl, ?_⟩
      | refine ⟨_, _, rfl, rfl, ?_⟩
      | refine MI.glc_next rfl ?_
      | refine MI.glc_end rfl ?_
      | refine MI.glf_next rfl ?_
      | refine MI.glf_end rfl ?_
      | refine ⟨Nat.le_of_ble_eq_true rfl, ?_⟩)
    have hz : ∀ x : Rt, Low x → Sz 500 x → v = rv x → Q v st4 := fun x h1 h2 e => by
      rw [e]
      exact q _ _ h1 (h2.mono (by decide)) (d4.mono (by omega)) (f1.trans (f2.trans (f3.trans f4)))
    simp only [List.mem_cons, List.not_mem_nil, or_false] at hv
    rcases hv with e | e | e
    · exact hz ⟨0, 0, 0, 0, 0⟩ (.inl rfl) ⟨⟨by decide +kernel, by decide +kernel, by decide +kernel, by decide +kernel⟩, by decide⟩ e
    · exact hz u (.inr od) (us.mono (by decide)) e
    · exact hz ⟨u.a, u.b, u.c, u.d, c⟩ (.inr od) ⟨us.f.mono (by decide), c1⟩ e
  · refine gss_nil (gn_next (gss_cut (R := fun o s => ∃ most far : Int, o = .next [some (.ref D), some (.int way), none, some (.int most), some (.int far), none, none, none] ∧ s = st1 ∧ 1 ≤ most ∧ most ≤ 149 ∧ 1 ≤ far ∧ far ≤ 501) (gs_asgT (gv_ife ?_)) ?_))
    · repeat (first
        | with_reducible (first | refine MI.gss_cons ?_ | refine MI.gss_nil ?_ | refine MI.gn_next ?_ | refine MI.gn_ret ?_ | refine MI.gn_brk ?_ | refine MI.gn_cont ?_ | refine MI.gk_next ?_ | refine MI.gk_cont ?_ | refine MI.gk_brk ?_ | refine MI.gk_ret ?_ | refine MI.gf_ret ?_ | refine MI.gf_next ?_ | refine MI.gs_asg ?_ | refine MI.gs_asgT ?_ | refine MI.gs_par ?_ | refine MI.gs_put ?_ | refine MI.gs_if ?_ | refine MI.gs_ret ?_ | refine MI.gs_retN ?_ | refine MI.gs_expr ?_ | refine MI.gs_pass ?_ | refine MI.gs_brk ?_ | refine MI.gs_cont ?_ | refine MI.gs_while ?_ | refine MI.gs_for ?_ | refine MI.ge_of ?_ | refine MI.ga_val ?_ | refine MI.ga_new ?_ | refine MI.gl_nil ?_ | refine MI.gl_cons ?_ | refine MI.gr_nil ?_ | refine MI.gr_cons ?_ | refine MI.gi_rng ?_ | refine MI.gi_of ?_ | refine MI.gv_name ?_ | refine MI.gv_int ?_ | refine MI.gv_bl ?_ | refine MI.gv_str ?_ | refine MI.gv_non ?_ | refine MI.gv_ty ?_ | refine MI.gv_glob ?_ | refine MI.gv_bin ?_ | refine MI.gv_neg ?_ | refine MI.gv_not ?_ | refine MI.gv_and ?_ | refine MI.gv_or ?_ | refine MI.gand_one ?_ | refine MI.gand_cons ?_ | refine MI.gor_one ?_ | refine MI.gor_cons ?_ | refine MI.gv_cmp ?_ | refine MI.gv_chain ?_ | refine MI.gv_ife ?_ | refine MI.gv_idx ?_ | refine MI.gv_slice ?_ | refine MI.go_none ?_ | refine MI.go_some ?_ | refine MI.gv_rev ?_ | refine MI.gv_call ?_ | refine MI.gv_callK ?_ | refine MI.gv_bi ?_ | refine MI.gv_comp ?_ | refine MI.gv_pop ?_ | refine MI.gv_append ?_ | refine MI.gv_dct ?_ | refine MI.gt_not ?_ | refine MI.gt_and ?_ | refine MI.gt_or ?_ | refine MI.gandt_one ?_ | refine MI.gandt_cons ?_ | refine MI.gort_one ?_ | refine MI.gort_cons ?_ | refine MI.gt_val ?_ | refine MI.gifs_nil ?_ | refine MI.gifs_cons ?_ | refine MI.gif_true ?_ | refine MI.gif_false ?_ | refine MI.gif_not ?_ | refine MI.gb_add ?_ | refine MI.gb_sub ?_ | refine MI.gm_lt ?_ | refine MI.gm_le ?_ | refine MI.gm_gt ?_ | refine MI.gm_ge ?_ | refine MI.gm_eq ?_ | refine MI.gm_ne ?_ | refine MI.gm_seq ?_ | refine MI.gtr_bl ?_ | refine MI.gtr_int ?_ | refine MI.gbi_int_int ?_ | refine MI.gbi_int_bool ?_ | refine MI.gbi_int_tup ?_ | refine MI.gbi_int_list ?_ | refine MI.gbi_int_dict ?_ | refine MI.gbi_tup_tup ?_ | refine MI.gbi_bl_tup ?_ | refine MI.gbi_bl_list ?_ | refine MI.gbi_bl_dict ?_ | refine MI.gbi_bl_bool ?_ | refine MI.gbi_len_tup ?_ | refine MI.gbi_int1 ?_ | refine MI.gbi_max ?_)
        | with_reducible refine MI.gv_tup ?_
        | with_reducible refine MI.gv_lst ?_
        | with_reducible refine MI.gb_mod (by first | decide | omega) ?_
        | with_reducible refine MI.gb_div (by first | decide | assumption) ?_
        | with_reducible refine MI.gb_mul (by first | decide | assumption) ?_
        | with_reducible refine MI.gb_pow (by decide) ?_
        | with_reducible refine MI.gif_dec_t (by first | assumption | omega | decide) ?_
        | with_reducible refine MI.gif_dec_f (by first | assumption | omega | decide) ?_
        | refine MI.gif_t rfl ?_
        | refine MI.gif_f rfl ?_
        | with_reducible refine MI.grg_of (by omega) (by omega) ?_
        | refine MI.gx_of rfl ?_
        | refine MI.gbi_of rfl ?_
        | refine ⟨_, rfl, ?_⟩
        | refine ⟨_, _, rfl, rfl, ?_⟩
        | refine MI.glc_next rfl ?_
        | refine MI.glc_end rfl ?_
        | refine MI.glf_next rfl ?_
        | refine MI.glf_end rfl ?_
        | refine ⟨Nat.le_of_ble_eq_true rfl, ?_⟩)
      refine gif_dec (fun h4 => ?_) (fun h4 => ?_)
      · repeat (first
          | with_reducible (first | refine MI.gss_cons ?_ | refine MI.gss_nil ?_ | refine MI.gn_next ?_ | refine MI.gn_ret ?_ | refine MI.gn_brk ?_ | refine MI.gn_cont ?_ | refine MI.gk_next ?_ | refine MI.gk_cont ?_ | refine MI.gk_brk ?_ | refine MI.gk_ret ?_ | refine MI.gf_ret ?_ | refine MI.gf_next ?_ | refine MI.gs_asg ?_ | refine MI.gs_asgT ?_ | refine MI.gs_par ?_ | refine MI.gs_put ?_ | refine MI.gs_if ?_ | refine MI.gs_ret ?_ | refine MI.gs_retN ?_ | refine MI.gs_expr ?_ | refine MI.gs_pass ?_ | refine MI.gs_brk ?_ | refine MI.gs_cont ?_ | refine MI.gs_while ?_ | refine MI.gs_for ?_ | refine MI.ge_of ?_ | refine MI.ga_val ?_ | refine MI.ga_new ?_ | refine MI.gl_nil ?_ | refine MI.gl_cons ?_ | refine MI.gr_nil ?_ | refine MI.gr_cons ?_ | refine MI.gi_rng ?_ | refine MI.gi_of ?_ | refine MI.gv_name ?_ | refine MI.gv_int ?_ | refine MI.gv_bl ?_ | refine MI.gv_str ?_ | refine MI.gv_non ?_ | refine MI.gv_ty ?_ | refine MI.gv_glob ?_ | refine MI.gv_bin ?_ | refine MI.gv_neg ?_ | refine MI.gv_not ?_ | refine MI.gv_and ?_ | refine MI.gv_or ?_ | refine MI.gand_one ?_ | refine MI.gand_cons ?_ | refine MI.gor_one ?_ | refine MI.gor_cons ?_ | refine MI.gv_cmp ?_ | refine MI.gv_chain ?_ | refine MI.gv_ife ?_ | refine MI.gv_idx ?_ | refine MI.gv_slice ?_ | refine MI.go_none ?_ | refine MI.go_some ?_ | refine MI.gv_rev ?_ | refine MI.gv_call ?_ | refine MI.gv_callK ?_ | refine MI.gv_bi ?_ | refine MI.gv_comp ?_ | refine MI.gv_pop ?_ | refine MI.gv_append ?_ | refine MI.gv_dct ?_ | refine MI.gt_not ?_ | refine MI.gt_and ?_ | refine MI.gt_or ?_ | refine MI.gandt_one ?_ | refine MI.gandt_cons ?_ | refine MI.gort_one ?_ | refine MI.gort_cons ?_ | refine MI.gt_val ?_ | refine MI.gifs_nil ?_ | refine MI.gifs_cons ?_ | refine MI.gif_true ?_ | refine MI.gif_false ?_ | refine MI.gif_not ?_ | refine MI.gb_add ?_ | refine MI.gb_sub ?_ | refine MI.gm_lt ?_ | refine MI.gm_le ?_ | refine MI.gm_gt ?_ | refine MI.gm_ge ?_ | refine MI.gm_eq ?_ | refine MI.gm_ne ?_ | refine MI.gm_seq ?_ | refine MI.gtr_bl ?_ | refine MI.gtr_int ?_ | refine MI.gbi_int_int ?_ | refine MI.gbi_int_bool ?_ | refine MI.gbi_int_tup ?_ | refine MI.gbi_int_list ?_ | refine MI.gbi_int_dict ?_ | refine MI.gbi_tup_tup ?_ | refine MI.gbi_bl_tup ?_ | refine MI.gbi_bl_list ?_ | refine MI.gbi_bl_dict ?_ | refine MI.gbi_bl_bool ?_ | refine MI.gbi_len_tup ?_ | refine MI.gbi_int1 ?_ | refine MI.gbi_max ?_)
          | with_reducible refine MI.gv_tup ?_
          | with_reducible refine MI.gv_lst ?_
          | with_reducible refine MI.gb_mod (by first | decide | omega) ?_
          | with_reducible refine MI.gb_div (by first | decide | assumption) ?_
          | with_reducible refine MI.gb_mul (by first | decide | assumption) ?_
          | with_reducible refine MI.gb_pow (by decide) ?_
          | with_reducible refine MI.gif_dec_t (by first | assumption | omega | decide) ?_
          | with_reducible refine MI.gif_dec_f (by first | assumption | omega | decide) ?_
          | refine MI.gif_t rfl ?_
          | refine MI.gif_f rfl ?_
          | with_reducible refine MI.grg_of (by omega) (by omega) ?_
          | refine MI.gx_of rfl ?_
          | refine MI.gbi_of rfl ?_
          | refine ⟨_, rfl, ?_⟩
          | refine ⟨_, _, rfl, rfl, ?_⟩
          | refine MI.glc_next rfl ?_
          | refine MI.glc_end rfl ?_
          | refine MI.glf_next rfl ?_
          | refine MI.glf_end rfl ?_
          | refine ⟨Nat.le_of_ble_eq_true rfl, ?_⟩)
        exact ⟨by decide, by decide, by decide, by decide⟩
      · repeat (first
          | with_reducible (first | refine MI.gss_cons ?_ | refine MI.gss_nil ?_ | refine MI.gn_next ?_ | refine MI.gn_ret ?_ | refine MI.gn_brk ?_ | refine MI.gn_cont ?_ | refine MI.gk_next ?_ | refine MI.gk_cont ?_ | refine MI.gk_brk ?_ | refine MI.gk_ret ?_ | refine MI.gf_ret ?_ | refine MI.gf_next ?_ | refine MI.gs_asg ?_ | refine MI.gs_asgT ?_ | refine MI.gs_par ?_ | refine MI.gs_put ?_ | refine MI.gs_if ?_ | refine MI.gs_ret ?_ | refine MI.gs_retN ?_ | refine MI.gs_expr ?_ | refine MI.gs_pass ?_ | refine MI.gs_brk ?_ | refine MI.gs_cont ?_ | refine MI.gs_while ?_ | refine MI.gs_for ?_ | refine MI.ge_of ?_ | refine MI.ga_val ?_ | refine MI.ga_new ?_ | refine MI.gl_nil ?_ | refine MI.gl_cons ?_ | refine MI.gr_nil ?_ | refine MI.gr_cons ?_ | refine MI.gi_rng ?_ | refine MI.gi_of ?_ | refine MI.gv_name ?_ | refine MI.gv_int ?_ | refine MI.gv_bl ?_ | refine MI.gv_str ?_ | refine MI.gv_non ?_ | refine MI.gv_ty ?_ | refine MI.gv_glob ?_ | refine MI.gv_bin ?_ | refine MI.gv_neg ?_ | refine MI.gv_not ?_ | refine MI.gv_and ?_ | refine MI.gv_or ?_ | refine MI.gand_one ?_ | refine MI.gand_cons ?_ | refine MI.gor_one ?_ | refine MI.gor_cons ?_ | refine MI.gv_cmp ?_ | refine MI.gv_chain ?_ | refine MI.gv_ife ?_ | refine MI.gv_idx ?_ | refine MI.gv_slice ?_ | refine MI.go_none ?_ | refine MI.go_some ?_ | refine MI.gv_rev ?_ | refine MI.gv_call ?_ | refine MI.gv_callK ?_ | refine MI.gv_bi ?_ | refine MI.gv_comp ?_ | refine MI.gv_pop ?_ | refine MI.gv_append ?_ | refine MI.gv_dct ?_ | refine MI.gt_not ?_ | refine MI.gt_and ?_ | refine MI.gt_or ?_ | refine MI.gandt_one ?_ | refine MI.gandt_cons ?_ | refine MI.gort_one ?_ | refine MI.gort_cons ?_ | refine MI.gt_val ?_ | refine MI.gifs_nil ?_ | refine MI.gifs_cons ?_ | refine MI.gif_true ?_ | refine MI.gif_false ?_ | refine MI.gif_not ?_ | refine MI.gb_add ?_ | refine MI.gb_sub ?_ | refine MI.gm_lt ?_ | refine MI.gm_le ?_ | refine MI.gm_gt ?_ | refine MI.gm_ge ?_ | refine MI.gm_eq ?_ | refine MI.gm_ne ?_ | refine MI.gm_seq ?_ | refine MI.gtr_bl ?_ | refine MI.gtr_int ?_ | refine MI.gbi_int_int ?_ | refine MI.gbi_int_bool ?_ | refine MI.gbi_int_tup ?_ | refine MI.gbi_int_list ?_ | refine MI.gbi_int_dict ?_ | refine MI.gbi_tup_tup ?_ | refine MI.gbi_bl_tup ?_ | refine MI.gbi_bl_list ?_ | refine MI.gbi_bl_dict ?_ | refine MI.gbi_bl_bool ?_ | refine MI.gbi_len_tup ?_ | refine MI.gbi_int1 ?_ | refine MI.gbi_max ?_)
          | with_reducible refine MI.gv_tup ?_
          | with_reducible refine MI.gv_lst ?_
          | with_reducible refine MI.gb_mod (by first | decide | omega) ?_
          | with_reducible refine MI.gb_div (by first | decide | assumption) ?_
          | with_reducible refine MI.gb_mul (by first | decide | assumption) ?_
          | with_reducible refine MI.gb_pow (by decide) ?_
          | with_reducible refine MI.gif_dec_t (by first | assumption | omega | decide) ?_
          | with_reducible refine MI.gif_dec_f (by first | assumption | omega | decide) ?_
          | refine MI.gif_t rfl ?_
          | refine MI.gif_f rfl ?_
          | with_reducible refine MI.grg_of (by omega) (by omega) ?_
          | refine MI.gx_of rfl ?_
          | refine MI.gbi_of rfl ?_
          | refine ⟨_, rfl, ?_⟩
          | refine ⟨_, _, rfl, rfl, ?_⟩
          | refine MI.glc_next rfl ?_
          | refine MI.glc_end rfl ?_
          | refine MI.glf_next rfl ?_
          | refine MI.glf_end rfl ?_
          | refine ⟨Nat.le_of_ble_eq_true rfl, ?_⟩)
        refine gif_dec (fun h5 => ?_) (fun h5 => ?_)
        · repeat (first
            | with_reducible (first | refine MI.gss_cons ?_ | refine MI.gss_nil ?_ | refine MI.gn_next ?_ | refine MI.gn_ret ?_ | refine MI.gn_brk ?_ | refine MI.gn_cont ?_ | refine MI.gk_next ?_ | refine MI.gk_cont ?_ | refine MI.gk_brk ?_ | refine MI.gk_ret ?_ | refine MI.gf_ret ?_ | refine MI.gf_next ?_ | refine MI.gs_asg ?_ | refine MI.gs_asgT ?_ | refine MI.gs_par ?_ | refine MI.gs_put ?_ | refine MI.gs_if ?_ | refine MI.gs_ret ?_ | refine MI.gs_retN ?_ | refine MI.gs_expr ?_ | refine MI.gs_pass ?_ | refine MI.gs_brk ?_ | refine MI.gs_cont ?_ | refine MI.gs_while ?_ | refine MI.gs_for ?_ | refine MI.ge_of ?_ | refine MI.ga_val ?_ | refine MI.ga_new ?_ | refine MI.gl_nil ?_ | refine MI.gl_cons ?_ | refine MI.gr_nil ?_ | refine MI.gr_cons ?_ | refine MI.gi_rng ?_ | refine MI.gi_of ?_ | refine MI.gv_name ?_ | refine MI.gv_int ?_ | refine MI.gv_bl ?_ | refine MI.gv_str ?_ | refine MI.gv_non ?_ | refine MI.gv_ty ?_ | refine MI.gv_glob ?_ | refine MI.gv_bin ?_ | refine MI.gv_neg ?_ | refine MI.gv_not ?_ | refine MI.gv_and ?_ | refine MI.gv_or ?_ | refine MI.gand_one ?_ | refine MI.gand_cons ?_ | refine MI.gor_one ?_ | refine MI.gor_cons ?_ | refine MI.gv_cmp ?_ | refine MI.gv_chain ?_ | refine MI.gv_ife ?_ | refine MI.gv_idx ?_ | refine MI.gv_slice ?_ | refine MI.go_none ?_ | refine MI.go_some ?_ | refine MI.gv_rev ?_ | refine MI.gv_call ?_ | refine MI.gv_callK ?_ | refine MI.gv_bi ?_ | refine MI.gv_comp ?_ | refine MI.gv_pop ?_ | refine MI.gv_append ?_ | refine MI.gv_dct ?_ | refine MI.gt_not ?_ | refine MI.gt_and ?_ | refine MI.gt_or ?_ | refine MI.gandt_one ?_ | refine MI.gandt_cons ?_ | refine MI.gort_one ?_ | refine MI.gort_cons ?_ | refine MI.gt_val ?_ | refine MI.gifs_nil ?_ | refine MI.gifs_cons ?_ | refine MI.gif_true ?_ | refine MI.gif_false ?_ | refine MI.gif_not ?_ | refine MI.gb_add ?_ | refine MI.gb_sub ?_ | refine MI.gm_lt ?_ | refine MI.gm_le ?_ | refine MI.gm_gt ?_ | refine MI.gm_ge ?_ | refine MI.gm_eq ?_ | refine MI.gm_ne ?_ | refine MI.gm_seq ?_ | refine MI.gtr_bl ?_ | refine MI.gtr_int ?_ | refine MI.gbi_int_int ?_ | refine MI.gbi_int_bool ?_ | refine MI.gbi_int_tup ?_ | refine MI.gbi_int_list ?_ | refine MI.gbi_int_dict ?_ | refine MI.gbi_tup_tup ?_ | refine MI.gbi_bl_tup ?_ | refine MI.gbi_bl_list ?_ | refine MI.gbi_bl_dict ?_ | refine MI.gbi_bl_bool ?_ | refine MI.gbi_len_tup ?_ | refine MI.gbi_int1 ?_ | refine MI.gbi_max ?_)
            | with_reducible refine MI.gv_tup ?_
            | with_reducible refine MI.gv_lst ?_
            | with_reducible refine MI.gb_mod (by first | decide | omega) ?_
            | with_reducible refine MI.gb_div (by first | decide | assumption) ?_
            | with_reducible refine MI.gb_mul (by first | decide | assumption) ?_
            | with_reducible refine MI.gb_pow (by decide) ?_
            | with_reducible refine MI.gif_dec_t (by first | assumption | omega | decide) ?_
            | with_reducible refine MI.gif_dec_f (by first | assumption | omega | decide) ?_
            | refine MI.gif_t rfl ?_
            | refine MI.gif_f rfl ?_
            | with_reducible refine MI.grg_of (by omega) (by omega) ?_
            | refine MI.gx_of rfl ?_
            | refine MI.gbi_of rfl ?_
            | refine ⟨_, rfl, ?_⟩
            | refine ⟨_, _, rfl, rfl, ?_⟩
            | refine MI.glc_next rfl ?_
            | refine MI.glc_end rfl ?_
            | refine MI.glf_next rfl ?_
            | refine MI.glf_end rfl ?_
            | refine ⟨Nat.le_of_ble_eq_true rfl, ?_⟩)
          exact ⟨by decide, by decide, by decide, by decide⟩
        · repeat (first
            | with_reducible (first | refine MI.gss_cons ?_ | refine MI.gss_nil ?_ | refine MI.gn_next ?_ | refine MI.gn_ret ?_ | refine MI.gn_brk ?_ | refine MI.gn_cont ?_ | refine MI.gk_next ?_ | refine MI.gk_cont ?_ | refine MI.gk_brk ?_ | refine MI.gk_ret ?_ | refine MI.gf_ret ?_ | refine MI.gf_next ?_ | refine MI.gs_asg ?_ | refine MI.gs_asgT ?_ | refine MI.gs_par ?_ | refine MI.gs_put ?_ | refine MI.gs_if ?_ | refine MI.gs_ret ?_ | refine MI.gs_retN ?_ | refine MI.gs_expr ?_ | refine MI.gs_pass ?_ | refine MI.gs_brk ?_ | refine MI.gs_cont ?_ | refine MI.gs_while ?_ | refine MI.gs_for ?_ | refine MI.ge_of ?_ | refine MI.ga_val ?_ | refine MI.ga_new ?_ | refine MI.gl_nil ?_ | refine MI.gl_cons ?_ | refine MI.gr_nil ?_ | refine MI.gr_cons ?_ | refine MI.gi_rng ?_ | refine MI.gi_of ?_ | refine MI.gv_name ?_ | refine MI.gv_int ?_ | refine MI.gv_bl ?_ | refine MI.gv_str ?_ | refine MI.gv_non ?_ | refine MI.gv_ty ?_ | refine MI.gv_glob ?_ | refine MI.gv_bin ?_ | refine MI.gv_neg ?_ | refine MI.gv_not ?_ | refine MI.gv_and ?_ | refine MI.gv_or ?_ | refine MI.gand_one ?_ | refine MI.gand_cons ?_ | refine MI.gor_one ?_ | refine MI.gor_cons ?_ | refine MI.gv_cmp ?_ | refine MI.gv_chain ?_ | refine MI.gv_ife ?_ | refine MI.gv_idx ?_ | refine MI.gv_slice ?_ | refine MI.go_none ?_ | refine MI.go_some ?_ | refine MI.gv_rev ?_ | refine MI.gv_call ?_ | refine MI.gv_callK ?_ | refine MI.gv_bi ?_ | refine MI.gv_comp ?_ | refine MI.gv_pop ?_ | refine MI.gv_append ?_ | refine MI.gv_dct ?_ | refine MI.gt_not ?_ | refine MI.gt_and ?_ | refine MI.gt_or ?_ | refine MI.gandt_one ?_ | refine MI.gandt_cons ?_ | refine MI.gort_one ?_ | refine MI.gort_cons ?_ | refine MI.gt_val ?_ | refine MI.gifs_nil ?_ | refine MI.gifs_cons ?_ | refine MI.gif_true ?_ | refine MI.gif_false ?_ | refine MI.gif_not ?_ | refine MI.gb_add ?_ | refine MI.gb_sub ?_ | refine MI.gm_lt ?_ | refine MI.gm_le ?_ | refine MI.gm_gt ?_ | refine MI.gm_ge ?_ | refine MI.gm_eq ?_ | refine MI.gm_ne ?_ | refine MI.gm_seq ?_ | refine MI.gtr_bl ?_ | refine MI.gtr_int ?_ | refine MI.gbi_int_int ?_ | refine MI.gbi_int_bool ?_ | refine MI.gbi_int_tup ?_ | refine MI.gbi_int_list ?_ | refine MI.gbi_int_dict ?_ | refine MI.gbi_tup_tup ?_ | refine MI.gbi_bl_tup ?_ | refine MI.gbi_bl_list ?_ | refine MI.gbi_bl_dict ?_ | refine MI.gbi_bl_bool ?_ | refine MI.gbi_len_tup ?_ | refine MI.gbi_int1 ?_ | refine MI.gbi_max ?_)
            | with_reducible refine MI.gv_tup ?_
            | with_reducible refine MI.gv_lst ?_
            | with_reducible refine MI.gb_mod (by first | decide | omega) ?_
            | with_reducible refine MI.gb_div (by first | decide | assumption) ?_
            | with_reducible refine MI.gb_mul (by first | decide | assumption) ?_
            | with_reducible refine MI.gb_pow (by decide) ?_
            | with_reducible refine MI.gif_dec_t (by first | assumption | omega | decide) ?_
            | with_reducible refine MI.gif_dec_f (by first | assumption | omega | decide) ?_
            | refine MI.gif_t rfl ?_
            | refine MI.gif_f rfl ?_
            | with_reducible refine MI.grg_of (by omega) (by omega) ?_
            | refine MI.gx_of rfl ?_
            | refine MI.gbi_of rfl ?_
            | refine ⟨_, rfl, ?_⟩
            | refine ⟨_, _, rfl, rfl, ?_⟩
            | refine MI.glc_next rfl ?_
            | refine MI.glc_end rfl ?_
            | refine MI.glf_next rfl ?_
            | refine MI.glf_end rfl ?_
            | refine ⟨Nat.le_of_ble_eq_true rfl, ?_⟩)
          exact ⟨by decide, by decide, by decide, by decide⟩
    · rintro o s ⟨most, far, rfl, rfl, m0, m1, r0, r1⟩
      refine gn_next ?_
      repeat (first
        | with_reducible (first | refine MI.gss_cons ?_ | refine MI.gss_nil ?_ | refine MI.gn_next ?_ | refine MI.gn_ret ?_ | refine MI.gn_brk ?_ | refine MI.gn_cont ?_ | refine MI.gk_next ?_ | refine MI.gk_cont ?_ | refine MI.gk_brk ?_ | refine MI.gk_ret ?_ | refine MI.gf_ret ?_ | refine MI.gf_next ?_ | refine MI.gs_asg ?_ | refine MI.gs_asgT ?_ | refine MI.gs_par ?_ | refine MI.gs_put ?_ | refine MI.gs_if ?_ | refine MI.gs_ret ?_ | refine MI.gs_retN ?_ | refine MI.gs_expr ?_ | refine MI.gs_pass ?_ | refine MI.gs_brk ?_ | refine MI.gs_cont ?_ | refine MI.gs_while ?_ | refine MI.gs_for ?_ | refine MI.ge_of ?_ | refine MI.ga_val ?_ | refine MI.ga_new ?_ | refine MI.gl_nil ?_ | refine MI.gl_cons ?_ | refine MI.gr_nil ?_ | refine MI.gr_cons ?_ | refine MI.gi_rng ?_ | refine MI.gi_of ?_ | refine MI.gv_name ?_ | refine MI.gv_int ?_ | refine MI.gv_bl ?_ | refine MI.gv_str ?_ | refine MI.gv_non ?_ | refine MI.gv_ty ?_ | refine MI.gv_glob ?_ | refine MI.gv_bin ?_ | refine MI.gv_neg ?_ | refine MI.gv_not ?_ | refine MI.gv_and ?_ | refine MI.gv_or ?_ | refine MI.gand_one ?_ | refine MI.gand_cons ?_ | refine MI.gor_one ?_ | refine MI.gor_cons ?_ | refine MI.gv_cmp ?_ | refine MI.gv_chain ?_ | refine MI.gv_ife ?_ | refine MI.gv_idx ?_ | refine MI.gv_slice ?_ | refine MI.go_none ?_ | refine MI.go_some ?_ | refine MI.gv_rev ?_ | refine MI.gv_call ?_ | refine MI.gv_callK ?_ | refine MI.gv_bi ?_ | refine MI.gv_comp ?_ | refine MI.gv_pop ?_ | refine MI.gv_append ?_ | refine MI.gv_dct ?_ | refine MI.gt_not ?_ | refine MI.gt_and ?_ | refine MI.gt_or ?_ | refine MI.gandt_one ?_ | refine MI.gandt_cons ?_ | refine MI.gort_one ?_ | refine MI.gort_cons ?_ | refine MI.gt_val ?_ | refine MI.gifs_nil ?_ | refine MI.gifs_cons ?_ | refine MI.gif_true ?_ | refine MI.gif_false ?_ | refine MI.gif_not ?_ | refine MI.gb_add ?_ | refine MI.gb_sub ?_ | refine MI.gm_lt ?_ | refine MI.gm_le ?_ | refine MI.gm_gt ?_ | refine MI.gm_ge ?_ | refine MI.gm_eq ?_ | refine MI.gm_ne ?_ | refine MI.gm_seq ?_ | refine MI.gtr_bl ?_ | refine MI.gtr_int ?_ | refine MI.gbi_int_int ?_ | refine MI.gbi_int_bool ?_ | refine MI.gbi_int_tup ?_ | refine MI.gbi_int_list ?_ | refine MI.gbi_int_dict ?_ | refine MI.gbi_tup_tup ?_ | refine MI.gbi_bl_tup ?_ | refine MI.gbi_bl_list ?_ | refine MI.gbi_bl_dict ?_ | refine MI.gbi_bl_bool ?_ | refine MI.gbi_len_tup ?_ | refine MI.gbi_int1 ?_ | refine MI.gbi_max ?_)
        | with_reducible refine MI.gv_tup ?_
        | with_reducible refine MI.gv_lst ?_
        | with_reducible refine MI.gb_mod (by first | decide | omega) ?_
        | with_reducible refine MI.gb_div (by first | decide | assumption) ?_
        | with_reducible refine MI.gb_mul (by first | decide | assumption) ?_
        | with_reducible refine MI.gb_pow (by decide) ?_
        | with_reducible refine MI.gif_dec_t (by first | assumption | omega | decide) ?_
        | with_reducible refine MI.gif_dec_f (by first | assumption | omega | decide) ?_
        | refine MI.gif_t rfl ?_
        | refine MI.gif_f rfl ?_
        | with_reducible refine MI.grg_of (by omega) (by omega) ?_
        | refine MI.gx_of rfl ?_
        | refine MI.gbi_of rfl ?_
        | refine ⟨_, rfl, ?_⟩
        | refine ⟨_, _, rfl, rfl, ?_⟩
        | refine MI.glc_next rfl ?_
        | refine MI.glc_end rfl ?_
        | refine MI.glf_next rfl ?_
        | refine MI.glf_end rfl ?_
        | refine ⟨Nat.le_of_ble_eq_true rfl, ?_⟩)
      refine s_int d1 (by omega) m0 m1 fun p1 st2 hp1 d2 f2 => ?_
      repeat (first
        | with_reducible (first | refine MI.gss_cons ?_ | refine MI.gss_nil ?_ | refine MI.gn_next ?_ | refine MI.gn_ret ?_ | refine MI.gn_brk ?_ | refine MI.gn_cont ?_ | refine MI.gk_next ?_ | refine MI.gk_cont ?_ | refine MI.gk_brk ?_ | refine MI.gk_ret ?_ | refine MI.gf_ret ?_ | refine MI.gf_next ?_ | refine MI.gs_asg ?_ | refine MI.gs_asgT ?_ | refine MI.gs_par ?_ | refine MI.gs_put ?_ | refine MI.gs_if ?_ | refine MI.gs_ret ?_ | refine MI.gs_retN ?_ | refine MI.gs_expr ?_ | refine MI.gs_pass ?_ | refine MI.gs_brk ?_ | refine MI.gs_cont ?_ | refine MI.gs_while ?_ | refine MI.gs_for ?_ | refine MI.ge_of ?_ | refine MI.ga_val ?_ | refine MI.ga_new ?_ | refine MI.gl_nil ?_ | refine MI.gl_cons ?_ | refine MI.gr_nil ?_ | refine MI.gr_cons ?_ | refine MI.gi_rng ?_ | refine MI.gi_of ?_ | refine MI.gv_name ?_ | refine MI.gv_int ?_ | refine MI.gv_bl ?_ | refine MI.gv_str ?_ | refine MI.gv_non ?_ | refine MI.gv_ty ?_ | refine MI.gv_glob ?_ | refine MI.gv_bin ?_ | refine MI.gv_neg ?_ | refine MI.gv_not ?_ | refine MI.gv_and ?_ | refine MI.gv_or ?_ | refine MI.gand_one ?_ | refine MI.gand_cons ?_ | refine MI.gor_one ?_ | refine MI.gor_cons ?_ | refine MI.gv_cmp ?_ | refine MI.gv_chain ?_ | refine MI.gv_ife ?_ | refine MI.gv_idx ?_ | refine MI.gv_slice ?_ | refine MI.go_none ?_ | refine MI.go_some ?_ | refine MI.gv_rev ?_ | refine MI.gv_call ?_ | refine MI.gv_callK ?_ | refine MI.gv_bi ?_ | refine MI.gv_comp ?_ | refine MI.gv_pop ?_ | refine MI.gv_append ?_ | refine MI.gv_dct ?_ | refine MI.gt_not ?_ | refine MI.gt_and ?_ | refine MI.gt_or ?_ | refine MI.gandt_one ?_ | refine MI.gandt_cons ?_ | refine MI.gort_one ?_ | refine MI.gort_cons ?_ | refine MI.gt_val ?_ | refine MI.gifs_nil ?_ | refine MI.gifs_cons ?_ | refine MI.gif_true ?_ | refine MI.gif_false ?_ | refine MI.gif_not ?_ | refine MI.gb_add ?_ | refine MI.gb_sub ?_ | refine MI.gm_lt ?_ | refine MI.gm_le ?_ | refine MI.gm_gt ?_ | refine MI.gm_ge ?_ | refine MI.gm_eq ?_ | refine MI.gm_ne ?_ | refine MI.gm_seq ?_ | refine MI.gtr_bl ?_ | refine MI.gtr_int ?_ | refine MI.gbi_int_int ?_ | refine MI.gbi_int_bool ?_ | refine MI.gbi_int_tup ?_ | refine MI.gbi_int_list ?_ | refine MI.gbi_int_dict ?_ | refine MI.gbi_tup_tup ?_ | refine MI.gbi_bl_tup ?_ | refine MI.gbi_bl_list ?_ | refine MI.gbi_bl_dict ?_ | refine MI.gbi_bl_bool ?_ | refine MI.gbi_len_tup ?_ | refine MI.gbi_int1 ?_ | refine MI.gbi_max ?_)
        | with_reducible refine MI.gv_tup ?_
        | with_reducible refine MI.gv_lst ?_
        | with_reducible refine MI.gb_mod (by first | decide | omega) ?_
        | with_reducible refine MI.gb_div (by first | decide | assumption) ?_
        | with_reducible refine MI.gb_mul (by first | decide | assumption) ?_
        | with_reducible refine MI.gb_pow (by decide) ?_
        | with_reducible refine MI.gif_dec_t (by first | assumption | omega | decide) ?_
        | with_reducible refine MI.gif_dec_f (by first | assumption | omega | decide) ?_
        | refine MI.gif_t rfl ?_
        | refine MI.gif_f rfl ?_
        | with_reducible refine MI.grg_of (by omega) (by omega) ?_
        | refine MI.gx_of rfl ?_
        | refine MI.gbi_of rfl ?_
        | refine ⟨_, rfl, ?_⟩
        | refine ⟨_, _, rfl, rfl, ?_⟩
        | refine MI.glc_next rfl ?_
        | refine MI.glc_end rfl ?_
        | refine MI.glf_next rfl ?_
        | refine MI.glf_end rfl ?_
        | refine ⟨Nat.le_of_ble_eq_true rfl, ?_⟩)
      refine s_int d2 (by omega) m0 m1 fun p2 st3 hp2 d3 f3 => ?_
      repeat (first
        | with_reducible (first | refine MI.gss_cons ?_ | refine MI.gss_nil ?_ | refine MI.gn_next ?_ | refine MI.gn_ret ?_ | refine MI.gn_brk ?_ | refine MI.gn_cont ?_ | refine MI.gk_next ?_ | refine MI.gk_cont ?_ | refine MI.gk_brk ?_ | refine MI.gk_ret ?_ | refine MI.gf_ret ?_ | refine MI.gf_next ?_ | refine MI.gs_asg ?_ | refine MI.gs_asgT ?_ | refine MI.gs_par ?_ | refine MI.gs_put ?_ | refine MI.gs_if ?_ | refine MI.gs_ret ?_ | refine MI.gs_retN ?_ | refine MI.gs_expr ?_ | refine MI.gs_pass ?_ | refine MI.gs_brk ?_ | refine MI.gs_cont ?_ | refine MI.gs_while ?_ | refine MI.gs_for ?_ | refine MI.ge_of ?_ | refine MI.ga_val ?_ | refine MI.ga_new ?_ | refine MI.gl_nil ?_ | refine MI.gl_cons ?_ | refine MI.gr_nil ?_ | refine MI.gr_cons ?_ | refine MI.gi_rng ?_ | refine MI.gi_of ?_ | refine MI.gv_name ?_ | refine MI.gv_int ?_ | refine MI.gv_bl ?_ | refine MI.gv_str ?_ | refine MI.gv_non ?_ | refine MI.gv_ty ?_ | refine MI.gv_glob ?_ | refine MI.gv_bin ?_ | refine MI.gv_neg ?_ | refine MI.gv_not ?_ | refine MI.gv_and ?_ | refine MI.gv_or ?_ | refine MI.gand_one ?_ | refine MI.gand_cons ?_ | refine MI.gor_one ?_ | refine MI.gor_cons ?_ | refine MI.gv_cmp ?_ | refine MI.gv_chain ?_ | refine MI.gv_ife ?_ | refine MI.gv_idx ?_ | refine MI.gv_slice ?_ | refine MI.go_none ?_ | refine MI.go_some ?_ | refine MI.gv_rev ?_ | refine MI.gv_call ?_ | refine MI.gv_callK ?_ | refine MI.gv_bi ?_ | refine MI.gv_comp ?_ | refine MI.gv_pop ?_ | refine MI.gv_append ?_ | refine MI.gv_dct ?_ | refine MI.gt_not ?_ | refine MI.gt_and ?_ | refine MI.gt_or ?_ | refine MI.gandt_one ?_ | refine MI.gandt_cons ?_ | refine MI.gort_one ?_ | refine MI.gort_cons ?_ | refine MI.gt_val ?_ | refine MI.gifs_nil ?_ | refine MI.gifs_cons ?_ | refine MI.gif_true ?_ | refine MI.gif_false ?_ | refine MI.gif_not ?_ | refine MI.gb_add ?_ | refine MI.gb_sub ?_ | refine MI.gm_lt ?_ | refine MI.gm_le ?_ | refine MI.gm_gt ?_ | refine MI.gm_ge ?_ | refine MI.gm_eq ?_ | refine MI.gm_ne ?_ | refine MI.gm_seq ?_ | refine MI.gtr_bl ?_ | refine MI.gtr_int ?_ | refine MI.gbi_int_int ?_ | refine MI.gbi_int_bool ?_ | refine MI.gbi_int_tup ?_ | refine MI.gbi_int_list ?_ | refine MI.gbi_int_dict ?_ | refine MI.gbi_tup_tup ?_ | refine MI.gbi_bl_tup ?_ | refine MI.gbi_bl_list ?_ | refine MI.gbi_bl_dict ?_ | refine MI.gbi_bl_bool ?_ | refine MI.gbi_len_tup ?_ | refine MI.gbi_int1 ?_ | refine MI.gbi_max ?_)
        | with_reducible refine MI.gv_tup ?_
        | with_reducible refine MI.gv_lst ?_
        | with_reducible refine MI.gb_mod (by first | decide | omega) ?_
        | with_reducible refine MI.gb_div (by first | decide | assumption) ?_
        | with_reducible refine MI.gb_mul (by first | decide | assumption) ?_
        | with_reducible refine MI.gb_pow (by decide) ?_
        | with_reducible refine MI.gif_dec_t (by first | assumption | omega | decide) ?_
        | with_reducible refine MI.gif_dec_f (by first | assumption | omega | decide) ?_
        | refine MI.gif_t rfl ?_
        | refine MI.gif_f rfl ?_
        | with_reducible refine MI.grg_of (by omega) (by omega) ?_
        | refine MI.gx_of rfl ?_
        | refine MI.gbi_of rfl ?_
        | refine ⟨_, rfl, ?_⟩
        | refine ⟨_, _, rfl, rfl, ?_⟩
        | refine MI.glc_next rfl ?_
        | refine MI.glc_end rfl ?_
        | refine MI.glf_next rfl ?_
        | refine MI.glf_end rfl ?_
        | refine ⟨Nat.le_of_ble_eq_true rfl, ?_⟩)
      refine s_int d3 (by omega) m0 m1 fun p3 st4 hp3 d4 f4 => ?_
      repeat (first
        | with_reducible (first | refine MI.gss_cons ?_ | refine MI.gss_nil ?_ | refine MI.gn_next ?_ | refine MI.gn_ret ?_ | refine MI.gn_brk ?_ | refine MI.gn_cont ?_ | refine MI.gk_next ?_ | refine MI.gk_cont ?_ | refine MI.gk_brk ?_ | refine MI.gk_ret ?_ | refine MI.gf_ret ?_ | refine MI.gf_next ?_ | refine MI.gs_asg ?_ | refine MI.gs_asgT ?_ | refine MI.gs_par ?_ | refine MI.gs_put ?_ | refine MI.gs_if ?_ | refine MI.gs_ret ?_ | refine MI.gs_retN ?_ | refine MI.gs_expr ?_ | refine MI.gs_pass ?_ | refine MI.gs_brk ?_ | refine MI.gs_cont ?_ | refine MI.gs_while ?_ | refine MI.gs_for ?_ | refine MI.ge_of ?_ | refine MI.ga_val ?_ | refine MI.ga_new ?_ | refine MI.gl_nil ?_ | refine MI.gl_cons ?_ | refine MI.gr_nil ?_ | refine MI.gr_cons ?_ | refine MI.gi_rng ?_ | refine MI.gi_of ?_ | refine MI.gv_name ?_ | refine MI.gv_int ?_ | refine MI.gv_bl ?_ | refine MI.gv_str ?_ | refine MI.gv_non ?_ | refine MI.gv_ty ?_ | refine MI.gv_glob ?_ | refine MI.gv_bin ?_ | refine MI.gv_neg ?_ | refine MI.gv_not ?_ | refine MI.gv_and ?_ | refine MI.gv_or ?_ | refine MI.gand_one ?_ | refine MI.gand_cons ?_ | refine MI.gor_one ?_ | refine MI.gor_cons ?_ | refine MI.gv_cmp ?_ | refine MI.gv_chain ?_ | refine MI.gv_ife ?_ | refine MI.gv_idx ?_ | refine MI.gv_slice ?_ | refine MI.go_none ?_ | refine MI.go_some ?_ | refine MI.gv_rev ?_ | refine MI.gv_call ?_ | refine MI.gv_callK ?_ | refine MI.gv_bi ?_ | refine MI.gv_comp ?_ | refine MI.gv_pop ?_ | refine MI.gv_append ?_ | refine MI.gv_dct ?_ | refine MI.gt_not ?_ | refine MI.gt_and ?_ | refine MI.gt_or ?_ | refine MI.gandt_one ?_ | refine MI.gandt_cons ?_ | refine MI.gort_one ?_ | refine MI.gort_cons ?_ | refine MI.gt_val ?_ | refine MI.gifs_nil ?_ | refine MI.gifs_cons ?_ | refine MI.gif_true ?_ | refine MI.gif_false ?_ | refine MI.gif_not ?_ | refine MI.gb_add ?_ | refine MI.gb_sub ?_ | refine MI.gm_lt ?_ | refine MI.gm_le ?_ | refine MI.gm_gt ?_ | refine MI.gm_ge ?_ | refine MI.gm_eq ?_ | refine MI.gm_ne ?_ | refine MI.gm_seq ?_ | refine MI.gtr_bl ?_ | refine MI.gtr_int ?_ | refine MI.gbi_int_int ?_ | refine MI.gbi_int_bool ?_ | refine MI.gbi_int_tup ?_ | refine MI.gbi_int_list ?_ | refine MI.gbi_int_dict ?_ | refine MI.gbi_tup_tup ?_ | refine MI.gbi_bl_tup ?_ | refine MI.gbi_bl_list ?_ | refine MI.gbi_bl_dict ?_ | refine MI.gbi_bl_bool ?_ | refine MI.gbi_len_tup ?_ | refine MI.gbi_int1 ?_ | refine MI.gbi_max ?_)
        | with_reducible refine MI.gv_tup ?_
        | with_reducible refine MI.gv_lst ?_
        | with_reducible refine MI.gb_mod (by first | decide | omega) ?_
        | with_reducible refine MI.gb_div (by first | decide | assumption) ?_
        | with_reducible refine MI.gb_mul (by first | decide | assumption) ?_
        | with_reducible refine MI.gb_pow (by decide) ?_
        | with_reducible refine MI.gif_dec_t (by first | assumption | omega | decide) ?_
        | with_reducible refine MI.gif_dec_f (by first | assumption | omega | decide) ?_
        | refine MI.gif_t rfl ?_
        | refine MI.gif_f rfl ?_
        | with_reducible refine MI.grg_of (by omega) (by omega) ?_
        | refine MI.gx_of rfl ?_
        | refine MI.gbi_of rfl ?_
        | refine ⟨_, rfl, ?_⟩
        | refine ⟨_, _, rfl, rfl, ?_⟩
        | refine MI.glc_next rfl ?_
        | refine MI.glc_end rfl ?_
        | refine MI.glf_next rfl ?_
        | refine MI.glf_end rfl ?_
        | refine ⟨Nat.le_of_ble_eq_true rfl, ?_⟩)
      refine s_int d4 (by omega) m0 m1 fun p4 st5 hp4 d5 f5 => ?_
      repeat (first
        | with_reducible (first | refine MI.gss_cons ?_ | refine MI.gss_nil ?_ | refine MI.gn_next ?_ | refine MI.gn_ret ?_ | refine MI.gn_brk ?_ | refine MI.gn_cont ?_ | refine MI.gk_next ?_ | refine MI.gk_cont ?_ | refine MI.gk_brk ?_ | refine MI.gk_ret ?_ | refine MI.gf_ret ?_ | refine MI.gf_next ?_ | refine MI.gs_asg ?_ | refine MI.gs_asgT ?_ | refine MI.gs_par ?_ | refine MI.gs_put ?_ | refine MI.gs_if ?_ | refine MI.gs_ret ?_ | refine MI.gs_retN ?_ | refine MI.gs_expr ?_ | refine MI.gs_pass ?_ | refine MI.gs_brk ?_ | refine MI.gs_cont ?_ | refine MI.gs_while ?_ | refine MI.gs_for ?_ | refine MI.ge_of ?_ | refine MI.ga_val ?_ | refine MI.ga_new ?_ | refine MI.gl_nil ?_ | refine MI.gl_cons ?_ | refine MI.gr_nil ?_ | refine MI.gr_cons ?_ | refine MI.gi_rng ?_ | refine MI.gi_of ?_ | refine MI.gv_name ?_ | refine MI.gv_int ?_ | refine MI.gv_bl ?_ | refine MI.gv_str ?_ | refine MI.gv_non ?_ | refine MI.gv_ty ?_ | refine MI.gv_glob ?_ | refine MI.gv_bin ?_ | refine MI.gv_neg ?_ | refine MI.gv_not ?_ | refine MI.gv_and ?_ | refine MI.gv_or ?_ | refine MI.gand_one ?_ | refine MI.gand_cons ?_ | refine MI.gor_one ?_ | refine MI.gor_cons ?_ | refine MI.gv_cmp ?_ | refine MI.gv_chain ?_ | refine MI.gv_ife ?_ | refine MI.gv_idx ?_ | refine MI.gv_slice ?_ | refine MI.go_none ?_ | refine MI.go_some ?_ | refine MI.gv_rev ?_ | refine MI.gv_call ?_ | refine MI.gv_callK ?_ | refine MI.gv_bi ?_ | refine MI.gv_comp ?_ | refine MI.gv_pop ?_ | refine MI.gv_append ?_ | refine MI.gv_dct ?_ | refine MI.gt_not ?_ | refine MI.gt_and ?_ | refine MI.gt_or ?_ | refine MI.gandt_one ?_ | refine MI.gandt_cons ?_ | refine MI.gort_one ?_ | refine MI.gort_cons ?_ | refine MI.gt_val ?_ | refine MI.gifs_nil ?_ | refine MI.gifs_cons ?_ | refine MI.gif_true ?_ | refine MI.gif_false ?_ | refine MI.gif_not ?_ | refine MI.gb_add ?_ | refine MI.gb_sub ?_ | refine MI.gm_lt ?_ | refine MI.gm_le ?_ | refine MI.gm_gt ?_ | refine MI.gm_ge ?_ | refine MI.gm_eq ?_ | refine MI.gm_ne ?_ | refine MI.gm_seq ?_ | refine MI.gtr_bl ?_ | refine MI.gtr_int ?_ | refine MI.gbi_int_int ?_ | refine MI.gbi_int_bool ?_ | refine MI.gbi_int_tup ?_ | refine MI.gbi_int_list ?_ | refine MI.gbi_int_dict ?_ | refine MI.gbi_tup_tup ?_ | refine MI.gbi_bl_tup ?_ | refine MI.gbi_bl_list ?_ | refine MI.gbi_bl_dict ?_ | refine MI.gbi_bl_bool ?_ | refine MI.gbi_len_tup ?_ | refine MI.gbi_int1 ?_ | refine MI.gbi_max ?_)
        | with_reducible refine MI.gv_tup ?_
        | with_reducible refine MI.gv_lst ?_
        | with_reducible refine MI.gb_mod (by first | decide | omega) ?_
        | with_reducible refine MI.gb_div (by first | decide | assumption) ?_
        | with_reducible refine MI.gb_mul (by first | decide | assumption) ?_
        | with_reducible refine MI.gb_pow (by decide) ?_
        | with_reducible refine MI.gif_dec_t (by first | assumption | omega | decide) ?_
        | with_reducible refine MI.gif_dec_f (by first | assumption | omega | decide) ?_
        | refine MI.gif_t rfl ?_
        | refine MI.gif_f rfl ?_
        | with_reducible refine MI.grg_of (by omega) (by omega) ?_
        | refine MI.gx_of rfl ?_
        | refine MI.gbi_of rfl ?_
        | refine ⟨_, rfl, ?_⟩
        | refine ⟨_, _, rfl, rfl, ?_⟩
        | refine MI.glc_next rfl ?_
        | refine MI.glc_end rfl ?_
        | refine MI.glf_next rfl ?_
        | refine MI.glf_end rfl ?_
        | refine ⟨Nat.le_of_ble_eq_true rfl, ?_⟩)
      have hn : (st5 ++ [Cell.lst [.int p1, .int p2, .int p3, .int p4]])[st5.length]? = some (.lst [.int p1, .int p2, .int p3, .int p4]) := by simp
      have lt := deck_lt d5
      have nD : st5.length ≠ D := by omega
      have nL : st5.length ≠ L := by omega
      have d6 : DeckSt D L (N + 1 + 40 + 40 + 40 + 40) (st5 ++ [Cell.lst [.int p1, .int p2, .int p3, .int p4]]) := d5.new
      have f6 : Fr D L st (st5 ++ [Cell.lst [.int p1, .int p2, .int p3, .int p4]]) := (f1.trans (f2.trans (f3.trans (f4.trans f5)))).trans Fr.new
      have fin : ∀ (n : Nat) (st8 : Store) (p1 p2 p3 p4 : Int), p1.natAbs < 2 ^ 2010 → p2.natAbs < 2 ^ 2010 → p3.natAbs < 2 ^ 2010 → p4.natAbs < 2 ^ 2010 → st8[n]? = some (.lst [.int p1, .int p2, .int p3, .int p4]) → n ≠ D → n ≠ L → DeckSt D L (N + 180) st8 → Fr D L st st8 →
          GSs G (d + 3) [(.ret (.call 24 [(.idx (.var 5) (.lit (.int 0))), (.idx (.var 5) (.lit (.int 1))), (.idx (.var 5) (.lit (.int 2))), (.idx (.var 5) (.lit (.int 3))), (.call 20 [(.var 0), (.var 4)])]))] [some (.ref D), some (.int way), none, some (.int most), some (.int far), some (.ref n), none, none] st8 (GF Q) := by
        intro n st8 p1 p2 p3 p4 h1 h2 h3 h4 hn nD nL d8 f8
        repeat (first
          | with_reducible (first | refine MI.gss_cons ?_ | refine MI.gss_nil ?_ | refine MI.gn_next ?_ | refine MI.gn_ret ?_ | refine MI.gn_brk ?_ | refine MI.gn_cont ?_ | refine MI.gk_next ?_ | refine MI.gk_cont ?_ | refine MI.gk_brk ?_ | refine MI.gk_ret ?_ | refine MI.gf_ret ?_ | refine MI.gf_next ?_ | refine MI.gs_asg ?_ | refine MI.gs_asgT ?_ | refine MI.gs_par ?_ | refine MI.gs_put ?_ | refine MI.gs_if ?_ | refine MI.gs_ret ?_ | refine MI.gs_retN ?_ | refine MI.gs_expr ?_ | refine MI.gs_pass ?_ | refine MI.gs_brk ?_ | refine MI.gs_cont ?_ | refine MI.gs_while ?_ | refine MI.gs_for ?_ | refine MI.ge_of ?_ | refine MI.ga_val ?_ | refine MI.ga_new ?_ | refine MI.gl_nil ?_ | refine MI.gl_cons ?_ | refine MI.gr_nil ?_ | refine MI.gr_cons ?_ | refine MI.gi_rng ?_ | refine MI.gi_of ?_ | refine MI.gv_name ?_ | refine MI.gv_int ?_ | refine MI.gv_bl ?_ | refine MI.gv_str ?_ | refine MI.gv_non ?_ | refine MI.gv_ty ?_ | refine MI.gv_glob ?_ | refine MI.gv_bin ?_ | refine MI.gv_neg ?_ | refine MI.gv_not ?_ | refine MI.gv_and ?_ | refine MI.gv_or ?_ | refine MI.gand_one ?_ | refine MI.gand_cons ?_ | refine MI.gor_one ?_ | refine MI.gor_cons ?_ | refine MI.gv_cmp ?_ | refine MI.gv_chain ?_ | refine MI.gv_ife ?_ | refine MI.gv_idx ?_ | refine MI.gv_slice ?_ | refine MI.go_none ?_ | refine MI.go_some ?_ | refine MI.gv_rev ?_ | refine MI.gv_call ?_ | refine MI.gv_callK ?_ | refine MI.gv_bi ?_ | refine MI.gv_comp ?_ | refine MI.gv_pop ?_ | refine MI.gv_append ?_ | refine MI.gv_dct ?_ | refine MI.gt_not ?_ | refine MI.gt_and ?_ | refine MI.gt_or ?_ | refine MI.gandt_one ?_ | refine MI.gandt_cons ?_ | refine MI.gort_one ?_ | refine MI.gort_cons ?_ | refine MI.gt_val ?_ | refine MI.gifs_nil ?_ | refine MI.gifs_cons ?_ | refine MI.gif_true ?_ | refine MI.gif_false ?_ | refine MI.gif_not ?_ | refine MI.gb_add ?_ | refine MI.gb_sub ?_ | refine MI.gm_lt ?_ | refine MI.gm_le ?_ | refine MI.gm_gt ?_ | refine MI.gm_ge ?_ | refine MI.gm_eq ?_ | refine MI.gm_ne ?_ | refine MI.gm_seq ?_ | refine MI.gtr_bl ?_ | refine MI.gtr_int ?_ | refine MI.gbi_int_int ?_ | refine MI.gbi_int_bool ?_ | refine MI.gbi_int_tup ?_ | refine MI.gbi_int_list ?_ | refine MI.gbi_int_dict ?_ | refine MI.gbi_tup_tup ?_ | refine MI.gbi_bl_tup ?_ | refine MI.gbi_bl_list ?_ | refine MI.gbi_bl_dict ?_ | refine MI.gbi_bl_bool ?_ | refine MI.gbi_len_tup ?_ | refine MI.gbi_int1 ?_ | refine MI.gbi_max ?_)
          | refine gx_lst hn rfl ?_
          | with_reducible refine MI.gv_tup ?_
          | with_reducible refine MI.gv_lst ?_
          | with_reducible refine MI.gb_mod (by first | decide | omega) ?_
          | with_reducible refine MI.gb_div (by first | decide | assumption) ?_
          | with_reducible refine MI.gb_mul (by first | decide | assumption) ?_
          | with_reducible refine MI.gb_pow (by decide) ?_
          | with_reducible refine MI.gif_dec_t (by first | assumption | omega | decide) ?_
          | with_reducible refine MI.gif_dec_f (by first | assumption | omega | decide) ?_
          | refine MI.gif_t rfl ?_
          | refine MI.gif_f rfl ?_
          | with_reducible refine MI.grg_of (by omega) (by omega) ?_
          | refine MI.gx_of rfl ?_
          | refine MI.gbi_of rfl ?_
          | refine ⟨_, rfl, ?_⟩
          | refine ⟨_, _, rfl, rfl, ?_⟩
          | refine MI.glc_next rfl ?_
          | refine MI.glc_end rfl ?_
          | refine MI.glf_next rfl ?_
          | refine MI.glf_end rfl ?_
          | refine ⟨Nat.le_of_ble_eq_true rfl, ?_⟩)
        refine s_draw d8 (by omega) (by omega) (by omega) fun k st9 k0 k1 d9 f9 => ?_
        obtain ⟨k, rfl⟩ : ∃ n : Nat, k = n := ⟨k.toNat, by omega⟩
        repeat (first
          | with_reducible (first | refine MI.gss_cons ?_ | refine MI.gss_nil ?_ | refine MI.gn_next ?_ | refine MI.gn_ret ?_ | refine MI.gn_brk ?_ | refine MI.gn_cont ?_ | refine MI.gk_next ?_ | refine MI.gk_cont ?_ | refine MI.gk_brk ?_ | refine MI.gk_ret ?_ | refine MI.gf_ret ?_ | refine MI.gf_next ?_ | refine MI.gs_asg ?_ | refine MI.gs_asgT ?_ | refine MI.gs_par ?_ | refine MI.gs_put ?_ | refine MI.gs_if ?_ | refine MI.gs_ret ?_ | refine MI.gs_retN ?_ | refine MI.gs_expr ?_ | refine MI.gs_pass ?_ | refine MI.gs_brk ?_ | refine MI.gs_cont ?_ | refine MI.gs_while ?_ | refine MI.gs_for ?_ | refine MI.ge_of ?_ | refine MI.ga_val ?_ | refine MI.ga_new ?_ | refine MI.gl_nil ?_ | refine MI.gl_cons ?_ | refine MI.gr_nil ?_ | refine MI.gr_cons ?_ | refine MI.gi_rng ?_ | refine MI.gi_of ?_ | refine MI.gv_name ?_ | refine MI.gv_int ?_ | refine MI.gv_bl ?_ | refine MI.gv_str ?_ | refine MI.gv_non ?_ | refine MI.gv_ty ?_ | refine MI.gv_glob ?_ | refine MI.gv_bin ?_ | refine MI.gv_neg ?_ | refine MI.gv_not ?_ | refine MI.gv_and ?_ | refine MI.gv_or ?_ | refine MI.gand_one ?_ | refine MI.gand_cons ?_ | refine MI.gor_one ?_ | refine MI.gor_cons ?_ | refine MI.gv_cmp ?_ | refine MI.gv_chain ?_ | refine MI.gv_ife ?_ | refine MI.gv_idx ?_ | refine MI.gv_slice ?_ | refine MI.go_none ?_ | refine MI.go_some ?_ | refine MI.gv_rev ?_ | refine MI.gv_call ?_ | refine MI.gv_callK ?_ | refine MI.gv_bi ?_ | refine MI.gv_comp ?_ | refine MI.gv_pop ?_ | refine MI.gv_append ?_ | refine MI.gv_dct ?_ | refine MI.gt_not ?_ | refine MI.gt_and ?_ | refine MI.gt_or ?_ | refine MI.gandt_one ?_ | refine MI.gandt_cons ?_ | refine MI.gort_one ?_ | refine MI.gort_cons ?_ | refine MI.gt_val ?_ | refine MI.gifs_nil ?_ | refine MI.gifs_cons ?_ | refine MI.gif_true ?_ | refine MI.gif_false ?_ | refine MI.gif_not ?_ | refine MI.gb_add ?_ | refine MI.gb_sub ?_ | refine MI.gm_lt ?_ | refine MI.gm_le ?_ | refine MI.gm_gt ?_ | refine MI.gm_ge ?_ | refine MI.gm_eq ?_ | refine MI.gm_ne ?_ | refine MI.gm_seq ?_ | refine MI.gtr_bl ?_ | refine MI.gtr_int ?_ | refine MI.gbi_int_int ?_ | refine MI.gbi_int_bool ?_ | refine MI.gbi_int_tup ?_ | refine MI.gbi_int_list ?_ | refine MI.gbi_int_dict ?_ | refine MI.gbi_tup_tup ?_ | refine MI.gbi_bl_tup ?_ | refine MI.gbi_bl_list ?_ | refine MI.gbi_bl_dict ?_ | refine MI.gbi_bl_bool ?_ | refine MI.gbi_len_tup ?_ | refine MI.gbi_int1 ?_ | refine MI.gbi_max ?_)
          | refine p_low24 ?_
          | with_reducible refine MI.gv_tup ?_
          | with_reducible refine MI.gv_lst ?_
          | with_reducible refine MI.gb_mod (by first | decide | omega) ?_
          | with_reducible refine MI.gb_div (by first | decide | assumption) ?_
          | with_reducible refine MI.gb_mul (by first | decide | assumption) ?_
          | with_reducible refine MI.gb_pow (by decide) ?_
          | with_reducible refine MI.gif_dec_t (by first | assumption | omega | decide) ?_
          | with_reducible refine MI.gif_dec_f (by first | assumption | omega | decide) ?_
          | refine MI.gif_t rfl ?_
          | refine MI.gif_f rfl ?_
          | with_reducible refine MI.grg_of (by omega) (by omega) ?_
          | refine MI.gx_of rfl ?_
          | refine MI.gbi_of rfl ?_
          | refine ⟨_, rfl, ?_⟩
          | refine ⟨_, _, rfl, rfl, ?_⟩
          | refine MI.glc_next rfl ?_
          | refine MI.glc_end rfl ?_
          | refine MI.glf_next rfl ?_
          | refine MI.glf_end rfl ?_
          | refine ⟨Nat.le_of_ble_eq_true rfl, ?_⟩)
        exact q _ _ lowQ_low ((lowQ_sz h1 h2 h3 h4 (by omega)).mono (by decide)) (d9.mono (by omega)) (f8.trans f9)
      refine s_draw d6 (by omega) (by omega) (by omega) fun z st7 z0 z1 d7 f7 => ?_
      have hn7 := (f7.at_ _ nD nL (List.getElem?_eq_some_iff.mp hn).1).trans hn
      have f7' := f6.trans f7
      repeat (first
        | with_reducible (first | refine MI.gss_cons ?_ | refine MI.gss_nil ?_ | refine MI.gn_next ?_ | refine MI.gn_ret ?_ | refine MI.gn_brk ?_ | refine MI.gn_cont ?_ | refine MI.gk_next ?_ | refine MI.gk_cont ?_ | refine MI.gk_brk ?_ | refine MI.gk_ret ?_ | refine MI.gf_ret ?_ | refine MI.gf_next ?_ | refine MI.gs_asg ?_ | refine MI.gs_asgT ?_ | refine MI.gs_par ?_ | refine MI.gs_put ?_ | refine MI.gs_if ?_ | refine MI.gs_ret ?_ | refine MI.gs_retN ?_ | refine MI.gs_expr ?_ | refine MI.gs_pass ?_ | refine MI.gs_brk ?_ | refine MI.gs_cont ?_ | refine MI.gs_while ?_ | refine MI.gs_for ?_ | refine MI.ge_of ?_ | refine MI.ga_val ?_ | refine MI.ga_new ?_ | refine MI.gl_nil ?_ | refine MI.gl_cons ?_ | refine MI.gr_nil ?_ | refine MI.gr_cons ?_ | refine MI.gi_rng ?_ | refine MI.gi_of ?_ | refine MI.gv_name ?_ | refine MI.gv_int ?_ | refine MI.gv_bl ?_ | refine MI.gv_str ?_ | refine MI.gv_non ?_ | refine MI.gv_ty ?_ | refine MI.gv_glob ?_ | refine MI.gv_bin ?_ | refine MI.gv_neg ?_ | refine MI.gv_not ?_ | refine MI.gv_and ?_ | refine MI.gv_or ?_ | refine MI.gand_one ?_ | refine MI.gand_cons ?_ | refine MI.gor_one ?_ | refine MI.gor_cons ?_ | refine MI.gv_cmp ?_ | refine MI.gv_chain ?_ | refine MI.gv_ife ?_ | refine MI.gv_idx ?_ | refine MI.gv_slice ?_ | refine MI.go_none ?_ | refine MI.go_some ?_ | refine MI.gv_rev ?_ | refine MI.gv_call ?_ | refine MI.gv_callK ?_ | refine MI.gv_bi ?_ | refine MI.gv_comp ?_ | refine MI.gv_pop ?_ | refine MI.gv_append ?_ | refine MI.gv_dct ?_ | refine MI.gt_not ?_ | refine MI.gt_and ?_ | refine MI.gt_or ?_ | refine MI.gandt_one ?_ | refine MI.gandt_cons ?_ | refine MI.gort_one ?_ | refine MI.gort_cons ?_ | refine MI.gt_val ?_ | refine MI.gifs_nil ?_ | refine MI.gifs_cons ?_ | refine MI.gif_true ?_ | refine MI.gif_false ?_ | refine MI.gif_not ?_ | refine MI.gb_add ?_ | refine MI.gb_sub ?_ | refine MI.gm_lt ?_ | refine MI.gm_le ?_ | refine MI.gm_gt ?_ | refine MI.gm_ge ?_ | refine MI.gm_eq ?_ | refine MI.gm_ne ?_ | refine MI.gm_seq ?_ | refine MI.gtr_bl ?_ | refine MI.gtr_int ?_ | refine MI.gbi_int_int ?_ | refine MI.gbi_int_bool ?_ | refine MI.gbi_int_tup ?_ | refine MI.gbi_int_list ?_ | refine MI.gbi_int_dict ?_ | refine MI.gbi_tup_tup ?_ | refine MI.gbi_bl_tup ?_ | refine MI.gbi_bl_list ?_ | refine MI.gbi_bl_dict ?_ | refine MI.gbi_bl_bool ?_ | refine MI.gbi_len_tup ?_ | refine MI.gbi_int1 ?_ | refine MI.gbi_max ?_)
        | with_reducible refine MI.gv_tup ?_
        | with_reducible refine MI.gv_lst ?_
        | with_reducible refine MI.gb_mod (by first | decide | omega) ?_
        | with_reducible refine MI.gb_div (by first | decide | assumption) ?_
        | with_reducible refine MI.gb_mul (by first | decide | assumption) ?_
        | with_reducible refine MI.gb_pow (by decide) ?_
        | with_reducible refine MI.gif_dec_t (by first | assumption | omega | decide) ?_
        | with_reducible refine MI.gif_dec_f (by first | assumption | omega | decide) ?_
        | refine MI.gif_t rfl ?_
        | refine MI.gif_f rfl ?_
        | with_reducible refine MI.grg_of (by omega) (by omega) ?_
        | refine MI.gx_of rfl ?_
        | refine MI.gbi_of rfl ?_
        | refine ⟨_, rfl, ?_⟩
        | refine ⟨_, _, rfl, rfl, ?_⟩
        | refine MI.glc_next rfl ?_
        | refine MI.glc_end rfl ?_
        | refine MI.glf_next rfl ?_
        | refine MI.glf_end rfl ?_
        | refine ⟨Nat.le_of_ble_eq_true rfl, ?_⟩)
      refine gif_dec (fun h4 => ?_) (fun h4 => ?_)
      · have mo : ∀ {p r : Int}, p.natAbs < 2 ^ 2000 → 0 ≤ r → r < 2 → mulOk p r = true ∧ (p * r).natAbs < 2 ^ 2010 := fun hp h0 h1 => by
          rename_i p r
          have hr : r.natAbs < 2 ^ 2 := by omega
          exact ⟨mulOk_of hp hr (by decide), sz_mono (sz_mul hp hr) (by decide)⟩
        repeat (first
          | with_reducible (first | refine MI.gss_cons ?_ | refine MI.gss_nil ?_ | refine MI.gn_next ?_ | refine MI.gn_ret ?_ | refine MI.gn_brk ?_ | refine MI.gn_cont ?_ | refine MI.gk_next ?_ | refine MI.gk_cont ?_ | refine MI.gk_brk ?_ | refine MI.gk_ret ?_ | refine MI.gf_ret ?_ | refine MI.gf_next ?_ | refine MI.gs_asg ?_ | refine MI.gs_asgT ?_ | refine MI.gs_par ?_ | refine MI.gs_put ?_ | refine MI.gs_if ?_ | refine MI.gs_ret ?_ | refine MI.gs_retN ?_ | refine MI.gs_expr ?_ | refine MI.gs_pass ?_ | refine MI.gs_brk ?_ | refine MI.gs_cont ?_ | refine MI.gs_while ?_ | refine MI.gs_for ?_ | refine MI.ge_of ?_ | refine MI.ga_val ?_ | refine MI.ga_new ?_ | refine MI.gl_nil ?_ | refine MI.gl_cons ?_ | refine MI.gr_nil ?_ | refine MI.gr_cons ?_ | refine MI.gi_rng ?_ | refine MI.gi_of ?_ | refine MI.gv_name ?_ | refine MI.gv_int ?_ | refine MI.gv_bl ?_ | refine MI.gv_str ?_ | refine MI.gv_non ?_ | refine MI.gv_ty ?_ | refine MI.gv_glob ?_ | refine MI.gv_bin ?_ | refine MI.gv_neg ?_ | refine MI.gv_not ?_ | refine MI.gv_and ?_ | refine MI.gv_or ?_ | refine MI.gand_one ?_ | refine MI.gand_cons ?_ | refine MI.gor_one ?_ | refine MI.gor_cons ?_ | refine MI.gv_cmp ?_ | refine MI.gv_chain ?_ | refine MI.gv_ife ?_ | refine MI.gv_idx ?_ | refine MI.gv_slice ?_ | refine MI.go_none ?_ | refine MI.go_some ?_ | refine MI.gv_rev ?_ | refine MI.gv_call ?_ | refine MI.gv_callK ?_ | refine MI.gv_bi ?_ | refine MI.gv_comp ?_ | refine MI.gv_pop ?_ | refine MI.gv_append ?_ | refine MI.gv_dct ?_ | refine MI.gt_not ?_ | refine MI.gt_and ?_ | refine MI.gt_or ?_ | refine MI.gandt_one ?_ | refine MI.gandt_cons ?_ | refine MI.gort_one ?_ | refine MI.gort_cons ?_ | refine MI.gt_val ?_ | refine MI.gifs_nil ?_ | refine MI.gifs_cons ?_ | refine MI.gif_true ?_ | refine MI.gif_false ?_ | refine MI.gif_not ?_ | refine MI.gb_add ?_ | refine MI.gb_sub ?_ | refine MI.gm_lt ?_ | refine MI.gm_le ?_ | refine MI.gm_gt ?_ | refine MI.gm_ge ?_ | refine MI.gm_eq ?_ | refine MI.gm_ne ?_ | refine MI.gm_seq ?_ | refine MI.gtr_bl ?_ | refine MI.gtr_int ?_ | refine MI.gbi_int_int ?_ | refine MI.gbi_int_bool ?_ | refine MI.gbi_int_tup ?_ | refine MI.gbi_int_list ?_ | refine MI.gbi_int_dict ?_ | refine MI.gbi_tup_tup ?_ | refine MI.gbi_bl_tup ?_ | refine MI.gbi_bl_list ?_ | refine MI.gbi_bl_dict ?_ | refine MI.gbi_bl_bool ?_ | refine MI.gbi_len_tup ?_ | refine MI.gbi_int1 ?_ | refine MI.gbi_max ?_)
          | refine ⟨.cell st5.length, src_cell hn7, ?_⟩
          | with_reducible refine MI.gv_tup ?_
          | with_reducible refine MI.gv_lst ?_
          | with_reducible refine MI.gb_mod (by first | decide | omega) ?_
          | with_reducible refine MI.gb_div (by first | decide | assumption) ?_
          | with_reducible refine MI.gb_mul (by first | decide | assumption) ?_
          | with_reducible refine MI.gb_pow (by decide) ?_
          | with_reducible refine MI.gif_dec_t (by first | assumption | omega | decide) ?_
          | with_reducible refine MI.gif_dec_f (by first | assumption | omega | decide) ?_
          | refine MI.gif_t rfl ?_
          | refine MI.gif_f rfl ?_
          | with_reducible refine MI.grg_of (by omega) (by omega) ?_
          | refine MI.gx_of rfl ?_
          | refine MI.gbi_of rfl ?_
          | refine ⟨_, rfl, ?_⟩
          | refine ⟨_, _, rfl, rfl, ?_⟩
          | refine MI.glc_next rfl ?_
          | refine MI.glc_end rfl ?_
          | refine MI.glf_next rfl ?_
          | refine MI.glf_end rfl ?_
          | refine ⟨Nat.le_of_ble_eq_true rfl, ?_⟩)
        refine glc_next (at_cell 0 hn7) ⟨_, rfl, ?_⟩
        repeat (first
          | with_reducible (first | refine MI.gss_cons ?_ | refine MI.gss_nil ?_ | refine MI.gn_next ?_ | refine MI.gn_ret ?_ | refine MI.gn_brk ?_ | refine MI.gn_cont ?_ | refine MI.gk_next ?_ | refine MI.gk_cont ?_ | refine MI.gk_brk ?_ | refine MI.gk_ret ?_ | refine MI.gf_ret ?_ | refine MI.gf_next ?_ | refine MI.gs_asg ?_ | refine MI.gs_asgT ?_ | refine MI.gs_par ?_ | refine MI.gs_put ?_ | refine MI.gs_if ?_ | refine MI.gs_ret ?_ | refine MI.gs_retN ?_ | refine MI.gs_expr ?_ | refine MI.gs_pass ?_ | refine MI.gs_brk ?_ | refine MI.gs_cont ?_ | refine MI.gs_while ?_ | refine MI.gs_for ?_ | refine MI.ge_of ?_ | refine MI.ga_val ?_ | refine MI.ga_new ?_ | refine MI.gl_nil ?_ | refine MI.gl_cons ?_ | refine MI.gr_nil ?_ | refine MI.gr_cons ?_ | refine MI.gi_rng ?_ | refine MI.gi_of ?_ | refine MI.gv_name ?_ | refine MI.gv_int ?_ | refine MI.gv_bl ?_ | refine MI.gv_str ?_ | refine MI.gv_non ?_ | refine MI.gv_ty ?_ | refine MI.gv_glob ?_ | refine MI.gv_bin ?_ | refine MI.gv_neg ?_ | refine MI.gv_not ?_ | refine MI.gv_and ?_ | refine MI.gv_or ?_ | refine MI.gand_one ?_ | refine MI.gand_cons ?_ | refine MI.gor_one ?_ | refine MI.gor_cons ?_ | refine MI.gv_cmp ?_ | refine MI.gv_chain ?_ | refine MI.gv_ife ?_ | refine MI.gv_idx ?_ | refine MI.gv_slice ?_ | refine MI.go_none ?_ | refine MI.go_some ?_ | refine MI.gv_rev ?_ | refine MI.gv_call ?_ | refine MI.gv_callK ?_ | refine MI.gv_bi ?_ | refine MI.gv_comp ?_ | refine MI.gv_pop ?_ | refine MI.gv_append ?_ | refine MI.gv_dct ?_ | refine MI.gt_not ?_ | refine MI.gt_and ?_ | refine MI.gt_or ?_ | refine MI.gandt_one ?_ | refine MI.gandt_cons ?_ | refine MI.gort_one ?_ | refine MI.gort_cons ?_ | refine MI.gt_val ?_ | refine MI.gifs_nil ?_ | refine MI.gifs_cons ?_ | refine MI.gif_true ?_ | refine MI.gif_false ?_ | refine MI.gif_not ?_ | refine MI.gb_add ?_ | refine MI.gb_sub ?_ | refine MI.gm_lt ?_ | refine MI.gm_le ?_ | refine MI.gm_gt ?_ | refine MI.gm_ge ?_ | refine MI.gm_eq ?_ | refine MI.gm_ne ?_ | refine MI.gm_seq ?_ | refine MI.gtr_bl ?_ | refine MI.gtr_int ?_ | refine MI.gbi_int_int ?_ | refine MI.gbi_int_bool ?_ | refine MI.gbi_int_tup ?_ | refine MI.gbi_int_list ?_ | refine MI.gbi_int_dict ?_ | refine MI.gbi_tup_tup ?_ | refine MI.gbi_bl_tup ?_ | refine MI.gbi_bl_list ?_ | refine MI.gbi_bl_dict ?_ | refine MI.gbi_bl_bool ?_ | refine MI.gbi_len_tup ?_ | refine MI.gbi_int1 ?_ | refine MI.gbi_max ?_)
          | with_reducible refine MI.gv_tup ?_
          | with_reducible refine MI.gv_lst ?_
          | with_reducible refine MI.gb_mod (by first | decide | omega) ?_
          | with_reducible refine MI.gb_div (by first | decide | assumption) ?_
          | with_reducible refine MI.gb_mul (by first | decide | assumption) ?_
          | with_reducible refine MI.gb_pow (by decide) ?_
          | with_reducible refine MI.gif_dec_t (by first | assumption | omega | decide) ?_
          | with_reducible refine MI.gif_dec_f (by first | assumption | omega | decide) ?_
          | refine MI.gif_t rfl ?_
          | refine MI.gif_f rfl ?_
          | with_reducible refine MI.grg_of (by omega) (by omega) ?_
          | refine MI.gx_of rfl ?_
          | refine MI.gbi_of rfl ?_
          | refine ⟨_, rfl, ?_⟩
          | refine ⟨_, _, rfl, rfl, ?_⟩
          | refine MI.glc_next rfl ?_
          | refine MI.glc_end rfl ?_
          | refine MI.glf_next rfl ?_
          | refine MI.glf_end rfl ?_
          | refine ⟨Nat.le_of_ble_eq_true rfl, ?_⟩)
        refine s_draw d7 (by omega) (by omega) (by omega) fun r1 st8 a0 a1 d8 f8 => ?_
        have hn8 := (f8.at_ _ nD nL (List.getElem?_eq_some_iff.mp hn7).1).trans hn7
        have m1 := mo hp1 a0 a1
        repeat (first
          | with_reducible (first | refine MI.gss_cons ?_ | refine MI.gss_nil ?_ | refine MI.gn_next ?_ | refine MI.gn_ret ?_ | refine MI.gn_brk ?_ | refine MI.gn_cont ?_ | refine MI.gk_next ?_ | refine MI.gk_cont ?_ | refine MI.gk_brk ?_ | refine MI.gk_ret ?_ | refine MI.gf_ret ?_ | refine MI.gf_next ?_ | refine MI.gs_asg ?_ | refine MI.gs_asgT ?_ | refine MI.gs_par ?_ | refine MI.gs_put ?_ | refine MI.gs_if ?_ | refine MI.gs_ret ?_ | refine MI.gs_retN ?_ | refine MI.gs_expr ?_ | refine MI.gs_pass ?_ | refine MI.gs_brk ?_ | refine MI.gs_cont ?_ | refine MI.gs_while ?_ | refine MI.gs_for ?_ | refine MI.ge_of ?_ | refine MI.ga_val ?_ | refine MI.ga_new ?_ | refine MI.gl_nil ?_ | refine MI.gl_cons ?_ | refine MI.gr_nil ?_ | refine MI.gr_cons ?_ | refine MI.gi_rng ?_ | refine MI.gi_of ?_ | refine MI.gv_name ?_ | refine MI.gv_int ?_ | refine MI.gv_bl ?_ | refine MI.gv_str ?_ | refine MI.gv_non ?_ | refine MI.gv_ty ?_ | refine MI.gv_glob ?_ | refine MI.gv_bin ?_ | refine MI.gv_neg ?_ | refine MI.gv_not ?_ | refine MI.gv_and ?_ | refine MI.gv_or ?_ | refine MI.gand_one ?_ | refine MI.gand_cons ?_ | refine MI.gor_one ?_ | refine MI.gor_cons ?_ | refine MI.gv_cmp ?_ | refine MI.gv_chain ?_ | refine MI.gv_ife ?_ | refine MI.gv_idx ?_ | refine MI.gv_slice ?_ | refine MI.go_none ?_ | refine MI.go_some ?_ | refine MI.gv_rev ?_ | refine MI.gv_call ?_ | refine MI.gv_callK ?_ | refine MI.gv_bi ?_ | refine MI.gv_comp ?_ | refine MI.gv_pop ?_ | refine MI.gv_append ?_ | refine MI.gv_dct ?_ | refine MI.gt_not ?_ | refine MI.gt_and ?_ | refine MI.gt_or ?_ | refine MI.gandt_one ?_ | refine MI.gandt_cons ?_ | refine MI.gort_one ?_ | refine MI.gort_cons ?_ | refine MI.gt_val ?_ | refine MI.gifs_nil ?_ | refine MI.gifs_cons ?_ | refine MI.gif_true ?_ | refine MI.gif_false ?_ | refine MI.gif_not ?_ | refine MI.gb_add ?_ | refine MI.gb_sub ?_ | refine MI.gm_lt ?_ | refine MI.gm_le ?_ | refine MI.gm_gt ?_ | refine MI.gm_ge ?_ | refine MI.gm_eq ?_ | refine MI.gm_ne ?_ | refine MI.gm_seq ?_ | refine MI.gtr_bl ?_ | refine MI.gtr_int ?_ | refine MI.gbi_int_int ?_ | refine MI.gbi_int_bool ?_ | refine MI.gbi_int_tup ?_ | refine MI.gbi_int_list ?_ | refine MI.gbi_int_dict ?_ | refine MI.gbi_tup_tup ?_ | refine MI.gbi_bl_tup ?_ | refine MI.gbi_bl_list ?_ | refine MI.gbi_bl_dict ?_ | refine MI.gbi_bl_bool ?_ | refine MI.gbi_len_tup ?_ | refine MI.gbi_int1 ?_ | refine MI.gbi_max ?_)
          | refine gb_mul m1.1 ?_
          | with_reducible refine MI.gv_tup ?_
          | with_reducible refine MI.gv_lst ?_
          | with_reducible refine MI.gb_mod (by first | decide | omega) ?_
          | with_reducible refine MI.gb_div (by first | decide | assumption) ?_
          | with_reducible refine MI.gb_mul (by first | decide | assumption) ?_
          | with_reducible refine MI.gb_pow (by decide) ?_
          | with_reducible refine MI.gif_dec_t (by first | assumption | omega | decide) ?_
          | with_reducible refine MI.gif_dec_f (by first | assumption | omega | decide) ?_
          | refine MI.gif_t rfl ?_
          | refine MI.gif_f rfl ?_
          | with_reducible refine MI.grg_of (by omega) (by omega) ?_
          | refine MI.gx_of rfl ?_
          | refine MI.gbi_of rfl ?_
          | refine ⟨_, rfl, ?_⟩
          | refine ⟨_, _, rfl, rfl, ?_⟩
          | refine MI.glc_next rfl ?_
          | refine MI.glc_end rfl ?_
          | refine MI.glf_next rfl ?_
          | refine MI.glf_end rfl ?_
          | refine ⟨Nat.le_of_ble_eq_true rfl, ?_⟩)
        refine glc_next (at_cell 1 hn8) ⟨_, rfl, ?_⟩
        repeat (first
          | with_reducible (first | refine MI.gss_cons ?_ | refine MI.gss_nil ?_ | refine MI.gn_next ?_ | refine MI.gn_ret ?_ | refine MI.gn_brk ?_ | refine MI.gn_cont ?_ | refine MI.gk_next ?_ | refine MI.gk_cont ?_ | refine MI.gk_brk ?_ | refine MI.gk_ret ?_ | refine MI.gf_ret ?_ | refine MI.gf_next ?_ | refine MI.gs_asg ?_ | refine MI.gs_asgT ?_ | refine MI.gs_par ?_ | refine MI.gs_put ?_ | refine MI.gs_if ?_ | refine MI.gs_ret ?_ | refine MI.gs_retN ?_ | refine MI.gs_expr ?_ | refine MI.gs_pass ?_ | refine MI.gs_brk ?_ | refine MI.gs_cont ?_ | refine MI.gs_while ?_ | refine MI.gs_for ?_ | refine MI.ge_of ?_ | refine MI.ga_val ?_ | refine MI.ga_new ?_ | refine MI.gl_nil ?_ | refine MI.gl_cons ?_ | refine MI.gr_nil ?_ | refine MI.gr_cons ?_ | refine MI.gi_rng ?_ | refine MI.gi_of ?_ | refine MI.gv_name ?_ | refine MI.gv_int ?_ | refine MI.gv_bl ?_ | refine MI.gv_str ?_ | refine MI.gv_non ?_ | refine MI.gv_ty ?_ | refine MI.gv_glob ?_ | refine MI.gv_bin ?_ | refine MI.gv_neg ?_ | refine MI.gv_not ?_ | refine MI.gv_and ?_ | refine MI.gv_or ?_ | refine MI.gand_one ?_ | refine MI.gand_cons ?_ | refine MI.gor_one ?_ | refine MI.gor_cons ?_ | refine MI.gv_cmp ?_ | refine MI.gv_chain ?_ | refine MI.gv_ife ?_ | refine MI.gv_idx ?_ | refine MI.gv_slice ?_ | refine MI.go_none ?_ | refine MI.go_some ?_ | refine MI.gv_rev ?_ | refine MI.gv_call ?_ | refine MI.gv_callK ?_ | refine MI.gv_bi ?_ | refine MI.gv_comp ?_ | refine MI.gv_pop ?_ | refine MI.gv_append ?_ | refine MI.gv_dct ?_ | refine MI.gt_not ?_ | refine MI.gt_and ?_ | refine MI.gt_or ?_ | refine MI.gandt_one ?_ | refine MI.gandt_cons ?_ | refine MI.gort_one ?_ | refine MI.gort_cons ?_ | refine MI.gt_val ?_ | refine MI.gifs_nil ?_ | refine MI.gifs_cons ?_ | refine MI.gif_true ?_ | refine MI.gif_false ?_ | refine MI.gif_not ?_ | refine MI.gb_add ?_ | refine MI.gb_sub ?_ | refine MI.gm_lt ?_ | refine MI.gm_le ?_ | refine MI.gm_gt ?_ | refine MI.gm_ge ?_ | refine MI.gm_eq ?_ | refine MI.gm_ne ?_ | refine MI.gm_seq ?_ | refine MI.gtr_bl ?_ | refine MI.gtr_int ?_ | refine MI.gbi_int_int ?_ | refine MI.gbi_int_bool ?_ | refine MI.gbi_int_tup ?_ | refine MI.gbi_int_list ?_ | refine MI.gbi_int_dict ?_ | refine MI.gbi_tup_tup ?_ | refine MI.gbi_bl_tup ?_ | refine MI.gbi_bl_list ?_ | refine MI.gbi_bl_dict ?_ | refine MI.gbi_bl_bool ?_ | refine MI.gbi_len_tup ?_ | refine MI.gbi_int1 ?_ | refine MI.gbi_max ?_)
          | with_reducible refine MI.gv_tup ?_
          | with_reducible refine MI.gv_lst ?_
          | with_reducible refine MI.gb_mod (by first | decide | omega) ?_
          | with_reducible refine MI.gb_div (by first | decide | assumption) ?_
          | with_reducible refine MI.gb_mul (by first | decide | assumption) ?_
          | with_reducible refine MI.gb_pow (by decide) ?_
          | with_reducible refine MI.gif_dec_t (by first | assumption | omega | decide) ?_
          | with_reducible refine MI.gif_dec_f (by first | assumption | omega | decide) ?_
          | refine MI.gif_t rfl ?_
          | refine MI.gif_f rfl ?_
          | with_reducible refine MI.grg_of (by omega) (by omega) ?_
          | refine MI.gx_of rfl ?_
          | refine MI.gbi_of rfl ?_
          | refine ⟨_, rfl, ?_⟩
          | refine ⟨_, _, rfl, rfl, ?_⟩
          | refine MI.glc_next rfl ?_
          | refine MI.glc_end rfl ?_
          | refine MI.glf_next rfl ?_
          | refine MI.glf_end rfl ?_
          | refine ⟨Nat.le_of_ble_eq_true rfl, ?_⟩)
        refine s_draw d8 (by omega) (by omega) (by omega) fun r2 st9 a0 a1 d9 f9 => ?_
        have hn9 := (f9.at_ _ nD nL (List.getElem?_eq_some_iff.mp hn8).1).trans hn8
        have m2 := mo hp2 a0 a1
        repeat (first
          | with_reducible (first | refine MI.gss_cons ?_ | refine MI.gss_nil ?_ | refine MI.gn_next ?_ | refine MI.gn_ret ?_ | refine MI.gn_brk ?_ | refine MI.gn_cont ?_ | refine MI.gk_next ?_ | refine MI.gk_cont ?_ | refine MI.gk_brk ?_ | refine MI.gk_ret ?_ | refine MI.gf_ret ?_ | refine MI.gf_next ?_ | refine MI.gs_asg ?_ | refine MI.gs_asgT ?_ | refine MI.gs_par ?_ | refine MI.gs_put ?_ | refine MI.gs_if ?_ | refine MI.gs_ret ?_ | refine MI.gs_retN ?_ | refine MI.gs_expr ?_ | refine MI.gs_pass ?_ | refine MI.gs_brk ?_ | refine MI.gs_cont ?_ | refine MI.gs_while ?_ | refine MI.gs_for ?_ | refine MI.ge_of ?_ | refine MI.ga_val ?_ | refine MI.ga_new ?_ | refine MI.gl_nil ?_ | refine MI.gl_cons ?_ | refine MI.gr_nil ?_ | refine MI.gr_cons ?_ | refine MI.gi_rng ?_ | refine MI.gi_of ?_ | refine MI.gv_name ?_ | refine MI.gv_int ?_ | refine MI.gv_bl ?_ | refine MI.gv_str ?_ | refine MI.gv_non ?_ | refine MI.gv_ty ?_ | refine MI.gv_glob ?_ | refine MI.gv_bin ?_ | refine MI.gv_neg ?_ | refine MI.gv_not ?_ | refine MI.gv_and ?_ | refine MI.gv_or ?_ | refine MI.gand_one ?_ | refine MI.gand_cons ?_ | refine MI.gor_one ?_ | refine MI.gor_cons ?_ | refine MI.gv_cmp ?_ | refine MI.gv_chain ?_ | refine MI.gv_ife ?_ | refine MI.gv_idx ?_ | refine MI.gv_slice ?_ | refine MI.go_none ?_ | refine MI.go_some ?_ | refine MI.gv_rev ?_ | refine MI.gv_call ?_ | refine MI.gv_callK ?_ | refine MI.gv_bi ?_ | refine MI.gv_comp ?_ | refine MI.gv_pop ?_ | refine MI.gv_append ?_ | refine MI.gv_dct ?_ | refine MI.gt_not ?_ | refine MI.gt_and ?_ | refine MI.gt_or ?_ | refine MI.gandt_one ?_ | refine MI.gandt_cons ?_ | refine MI.gort_one ?_ | refine MI.gort_cons ?_ | refine MI.gt_val ?_ | refine MI.gifs_nil ?_ | refine MI.gifs_cons ?_ | refine MI.gif_true ?_ | refine MI.gif_false ?_ | refine MI.gif_not ?_ | refine MI.gb_add ?_ | refine MI.gb_sub ?_ | refine MI.gm_lt ?_ | refine MI.gm_le ?_ | refine MI.gm_gt ?_ | refine MI.gm_ge ?_ | refine MI.gm_eq ?_ | refine MI.gm_ne ?_ | refine MI.gm_seq ?_ | refine MI.gtr_bl ?_ | refine MI.gtr_int ?_ | refine MI.gbi_int_int ?_ | refine MI.gbi_int_bool ?_ | refine MI.gbi_int_tup ?_ | refine MI.gbi_int_list ?_ | refine MI.gbi_int_dict ?_ | refine MI.gbi_tup_tup ?_ | refine MI.gbi_bl_tup ?_ | refine MI.gbi_bl_list ?_ | refine MI.gbi_bl_dict ?_ | refine MI.gbi_bl_bool ?_ | refine MI.gbi_len_tup ?_ | refine MI.gbi_int1 ?_ | refine MI.gbi_max ?_)
          | refine gb_mul m2.1 ?_
          | with_reducible refine MI.gv_tup ?_
          | with_reducible refine MI.gv_lst ?_
          | with_reducible refine MI.gb_mod (by first | decide | omega) ?_
          | with_reducible refine MI.gb_div (by first | decide | assumption) ?_
          | with_reducible refine MI.gb_mul (by first | decide | assumption) ?_
          | with_reducible refine MI.gb_pow (by decide) ?_
          | with_reducible refine MI.gif_dec_t (by first | assumption | omega | decide) ?_
          | with_reducible refine MI.gif_dec_f (by first | assumption | omega | decide) ?_
          | refine MI.gif_t rfl ?_
          | refine MI.gif_f rfl ?_
          | with_reducible refine MI.grg_of (by omega) (by omega) ?_
          | refine MI.gx_of rfl ?_
          | refine MI.gbi_of rfl ?_
          | refine ⟨_, rfl, ?_⟩
          | refine ⟨_, _, rfl, rfl, ?_⟩
          | refine MI.glc_next rfl ?_
          | refine MI.glc_end rfl ?_
          | refine MI.glf_next rfl ?_
          | refine MI.glf_end rfl ?_
          | refine ⟨Nat.le_of_ble_eq_true rfl, ?_⟩)
        refine glc_next (at_cell 2 hn9) ⟨_, rfl, ?_⟩
        repeat (first
          | with_reducible (first | refine MI.gss_cons ?_ | refine MI.gss_nil ?_ | refine MI.gn_next ?_ | refine MI.gn_ret ?_ | refine MI.gn_brk ?_ | refine MI.gn_cont ?_ | refine MI.gk_next ?_ | refine MI.gk_cont ?_ | refine MI.gk_brk ?_ | refine MI.gk_ret ?_ | refine MI.gf_ret ?_ | refine MI.gf_next ?_ | refine MI.gs_asg ?_ | refine MI.gs_asgT ?_ | refine MI.gs_par ?_ | refine MI.gs_put ?_ | refine MI.gs_if ?_ | refine MI.gs_ret ?_ | refine MI.gs_retN ?_ | refine MI.gs_expr ?_ | refine MI.gs_pass ?_ | refine MI.gs_brk ?_ | refine MI.gs_cont ?_ | refine MI.gs_while ?_ | refine MI.gs_for ?_ | refine MI.ge_of ?_ | refine MI.ga_val ?_ | refine MI.ga_new ?_ | refine MI.gl_nil ?_ | refine MI.gl_cons ?_ | refine MI.gr_nil ?_ | refine MI.gr_cons ?_ | refine MI.gi_rng ?_ | refine MI.gi_of ?_ | refine MI.gv_name ?_ | refine MI.gv_int ?_ | refine MI.gv_bl ?_ | refine MI.gv_str ?_ | refine MI.gv_non ?_ | refine MI.gv_ty ?_ | refine MI.gv_glob ?_ | refine MI.gv_bin ?_ | refine MI.gv_neg ?_ | refine MI.gv_not ?_ | refine MI.gv_and ?_ | refine MI.gv_or ?_ | refine MI.gand_one ?_ | refine MI.gand_cons ?_ | refine MI.gor_one ?_ | refine MI.gor_cons ?_ | refine MI.gv_cmp ?_ | refine MI.gv_chain ?_ | refine MI.gv_ife ?_ | refine MI.gv_idx ?_ | refine MI.gv_slice ?_ | refine MI.go_none ?_ | refine MI.go_some ?_ | refine MI.gv_rev ?_ | refine MI.gv_call ?_ | refine MI.gv_callK ?_ | refine MI.gv_bi ?_ | refine MI.gv_comp ?_ | refine MI.gv_pop ?_ | refine MI.gv_append ?_ | refine MI.gv_dct ?_ | refine MI.gt_not ?_ | refine MI.gt_and ?_ | refine MI.gt_or ?_ | refine MI.gandt_one ?_ | refine MI.gandt_cons ?_ | refine MI.gort_one ?_ | refine MI.gort_cons ?_ | refine MI.gt_val ?_ | refine MI.gifs_nil ?_ | refine MI.gifs_cons ?_ | refine MI.gif_true ?_ | refine MI.gif_false ?_ | refine MI.gif_not ?_ | refine MI.gb_add ?_ | refine MI.gb_sub ?_ | refine MI.gm_lt ?_ | refine MI.gm_le ?_ | refine MI.gm_gt ?_ | refine MI.gm_ge ?_ | refine MI.gm_eq ?_ | refine MI.gm_ne ?_ | refine MI.gm_seq ?_ | refine MI.gtr_bl ?_ | refine MI.gtr_int ?_ | refine MI.gbi_int_int ?_ | refine MI.gbi_int_bool ?_ | refine MI.gbi_int_tup ?_ | refine MI.gbi_int_list ?_ | refine MI.gbi_int_dict ?_ | refine MI.gbi_tup_tup ?_ | refine MI.gbi_bl_tup ?_ | refine MI.gbi_bl_list ?_ | refine MI.gbi_bl_dict ?_ | refine MI.gbi_bl_bool ?_ | refine MI.gbi_len_tup ?_ | refine MI.gbi_int1 ?_ | refine MI.gbi_max ?_)
          | with_reducible refine MI.gv_tup ?_
          | with_reducible refine MI.gv_lst ?_
          | with_reducible refine MI.gb_mod (by first | decide | omega) ?_
          | with_reducible refine MI.gb_div (by first | decide | assumption) ?_
          | with_reducible refine MI.gb_mul (by first | decide | assumption) ?_
          | with_reducible refine MI.gb_pow (by decide) ?_
          | with_reducible refine MI.gif_dec_t (by first | assumption | omega | decide) ?_
          | with_reducible refine MI.gif_dec_f (by first | assumption | omega | decide) ?_
          | refine MI.gif_t rfl ?_
          | refine MI.gif_f rfl ?_
          | with_reducible refine MI.grg_of (by omega) (by omega) ?_
          | refine MI.gx_of rfl ?_
          | refine MI.gbi_of rfl ?_
          | refine ⟨_, rfl, ?_⟩
          | refine ⟨_, _, rfl, rfl, ?_⟩
          | refine MI.glc_next rfl ?_
          | refine MI.glc_end rfl ?_
          | refine MI.glf_next rfl ?_
          | refine MI.glf_end rfl ?_
          | refine ⟨Nat.le_of_ble_eq_true rfl, ?_⟩)
        refine s_draw d9 (by omega) (by omega) (by omega) fun r3 st10 a0 a1 d10 f10 => ?_
        have hn10 := (f10.at_ _ nD nL (List.getElem?_eq_some_iff.mp hn9).1).trans hn9
        have m3 := mo hp3 a0 a1
        repeat (first
          | with_reducible (first | refine MI.gss_cons ?_ | refine MI.gss_nil ?_ | refine MI.gn_next ?_ | refine MI.gn_ret ?_ | refine MI.gn_brk ?_ | refine MI.gn_cont ?_ | refine MI.gk_next ?_ | refine MI.gk_cont ?_ | refine MI.gk_brk ?_ | refine MI.gk_ret ?_ | refine MI.gf_ret ?_ | refine MI.gf_next ?_ | refine MI.gs_asg ?_ | refine MI.gs_asgT ?_ | refine MI.gs_par ?_ | refine MI.gs_put ?_ | refine MI.gs_if ?_ | refine MI.gs_ret ?_ | refine MI.gs_retN ?_ | refine MI.gs_expr ?_ | refine MI.gs_pass ?_ | refine MI.gs_brk ?_ | refine MI.gs_cont ?_ | refine MI.gs_while ?_ | refine MI.gs_for ?_ | refine MI.ge_of ?_ | refine MI.ga_val ?_ | refine MI.ga_new ?_ | refine MI.gl_nil ?_ | refine MI.gl_cons ?_ | refine MI.gr_nil ?_ | refine MI.gr_cons ?_ | refine MI.gi_rng ?_ | refine MI.gi_of ?_ | refine MI.gv_name ?_ | refine MI.gv_int ?_ | refine MI.gv_bl ?_ | refine MI.gv_str ?_ | refine MI.gv_non ?_ | refine MI.gv_ty ?_ | refine MI.gv_glob ?_ | refine MI.gv_bin ?_ | refine MI.gv_neg ?_ | refine MI.gv_not ?_ | refine MI.gv_and ?_ | refine MI.gv_or ?_ | refine MI.gand_one ?_ | refine MI.gand_cons ?_ | refine MI.gor_one ?_ | refine MI.gor_cons ?_ | refine MI.gv_cmp ?_ | refine MI.gv_chain ?_ | refine MI.gv_ife ?_ | refine MI.gv_idx ?_ | refine MI.gv_slice ?_ | refine MI.go_none ?_ | refine MI.go_some ?_ | refine MI.gv_rev ?_ | refine MI.gv_call ?_ | refine MI.gv_callK ?_ | refine MI.gv_bi ?_ | refine MI.gv_comp ?_ | refine MI.gv_pop ?_ | refine MI.gv_append ?_ | refine MI.gv_dct ?_ | refine MI.gt_not ?_ | refine MI.gt_and ?_ | refine MI.gt_or ?_ | refine MI.gandt_one ?_ | refine MI.gandt_cons ?_ | refine MI.gort_one ?_ | refine MI.gort_cons ?_ | refine MI.gt_val ?_ | refine MI.gifs_nil ?_ | refine MI.gifs_cons ?_ | refine MI.gif_true ?_ | refine MI.gif_false ?_ | refine MI.gif_not ?_ | refine MI.gb_add ?_ | refine MI.gb_sub ?_ | refine MI.gm_lt ?_ | refine MI.gm_le ?_ | refine MI.gm_gt ?_ | refine MI.gm_ge ?_ | refine MI.gm_eq ?_ | refine MI.gm_ne ?_ | refine MI.gm_seq ?_ | refine MI.gtr_bl ?_ | refine MI.gtr_int ?_ | refine MI.gbi_int_int ?_ | refine MI.gbi_int_bool ?_ | refine MI.gbi_int_tup ?_ | refine MI.gbi_int_list ?_ | refine MI.gbi_int_dict ?_ | refine MI.gbi_tup_tup ?_ | refine MI.gbi_bl_tup ?_ | refine MI.gbi_bl_list ?_ | refine MI.gbi_bl_dict ?_ | refine MI.gbi_bl_bool ?_ | refine MI.gbi_len_tup ?_ | refine MI.gbi_int1 ?_ | refine MI.gbi_max ?_)
          | refine gb_mul m3.1 ?_
          | with_reducible refine MI.gv_tup ?_
          | with_reducible refine MI.gv_lst ?_
          | with_reducible refine MI.gb_mod (by first | decide | omega) ?_
          | with_reducible refine MI.gb_div (by first | decide | assumption) ?_
          | with_reducible refine MI.gb_mul (by first | decide | assumption) ?_
          | with_reducible refine MI.gb_pow (by decide) ?_
          | with_reducible refine MI.gif_dec_t (by first | assumption | omega | decide) ?_
          | with_reducible refine MI.gif_dec_f (by first | assumption | omega | decide) ?_
          | refine MI.gif_t rfl ?_
          | refine MI.gif_f rfl ?_
          | with_reducible refine MI.grg_of (by omega) (by omega) ?_
          | refine MI.gx_of rfl ?_
          | refine MI.gbi_of rfl ?_
          | refine ⟨_, rfl, ?_⟩
          | refine ⟨_, _, rfl, rfl, ?_⟩
          | refine MI.glc_next rfl ?_
          | refine MI.glc_end rfl ?_
          | refine MI.glf_next rfl ?_
          | refine MI.glf_end rfl ?_
          | refine ⟨Nat.le_of_ble_eq_true rfl, ?_⟩)
        refine glc_next (at_cell 3 hn10) ⟨_, rfl, ?_⟩
        repeat (first
          | with_reducible (first | refine MI.gss_cons ?_ | refine MI.gss_nil ?_ | refine MI.gn_next ?_ | refine MI.gn_ret ?_ | refine MI.gn_brk ?_ | refine MI.gn_cont ?_ | refine MI.gk_next ?_ | refine MI.gk_cont ?_ | refine MI.gk_brk ?_ | refine MI.gk_ret ?_ | refine MI.gf_ret ?_ | refine MI.gf_next ?_ | refine MI.gs_asg ?_ | refine MI.gs_asgT ?_ | refine MI.gs_par ?_ | refine MI.gs_put ?_ | refine MI.gs_if ?_ | refine MI.gs_ret ?_ | refine MI.gs_retN ?_ | refine MI.gs_expr ?_ | refine MI.gs_pass ?_ | refine MI.gs_brk ?_ | refine MI.gs_cont ?_ | refine MI.gs_while ?_ | refine MI.gs_for ?_ | refine MI.ge_of ?_ | refine MI.ga_val ?_ | refine MI.ga_new ?_ | refine MI.gl_nil ?_ | refine MI.gl_cons ?_ | refine MI.gr_nil ?_ | refine MI.gr_cons ?_ | refine MI.gi_rng ?_ | refine MI.gi_of ?_ | refine MI.gv_name ?_ | refine MI.gv_int ?_ | refine MI.gv_bl ?_ | refine MI.gv_str ?_ | refine MI.gv_non ?_ | refine MI.gv_ty ?_ | refine MI.gv_glob ?_ | refine MI.gv_bin ?_ | refine MI.gv_neg ?_ | refine MI.gv_not ?_ | refine MI.gv_and ?_ | refine MI.gv_or ?_ | refine MI.gand_one ?_ | refine MI.gand_cons ?_ | refine MI.gor_one ?_ | refine MI.gor_cons ?_ | refine MI.gv_cmp ?_ | refine MI.gv_chain ?_ | refine MI.gv_ife ?_ | refine MI.gv_idx ?_ | refine MI.gv_slice ?_ | refine MI.go_none ?_ | refine MI.go_some ?_ | refine MI.gv_rev ?_ | refine MI.gv_call ?_ | refine MI.gv_callK ?_ | refine MI.gv_bi ?_ | refine MI.gv_comp ?_ | refine MI.gv_pop ?_ | refine MI.gv_append ?_ | refine MI.gv_dct ?_ | refine MI.gt_not ?_ | refine MI.gt_and ?_ | refine MI.gt_or ?_ | refine MI.gandt_one ?_ | refine MI.gandt_cons ?_ | refine MI.gort_one ?_ | refine MI.gort_cons ?_ | refine MI.gt_val ?_ | refine MI.gifs_nil ?_ | refine MI.gifs_cons ?_ | refine MI.gif_true ?_ | refine MI.gif_false ?_ | refine MI.gif_not ?_ | refine MI.gb_add ?_ | refine MI.gb_sub ?_ | refine MI.gm_lt ?_ | refine MI.gm_le ?_ | refine MI.gm_gt ?_ | refine MI.gm_ge ?_ | refine MI.gm_eq ?_ | refine MI.gm_ne ?_ | refine MI.gm_seq ?_ | refine MI.gtr_bl ?_ | refine MI.gtr_int ?_ | refine MI.gbi_int_int ?_ | refine MI.gbi_int_bool ?_ | refine MI.gbi_int_tup ?_ | refine MI.gbi_int_list ?_ | refine MI.gbi_int_dict ?_ | refine MI.gbi_tup_tup ?_ | refine MI.gbi_bl_tup ?_ | refine MI.gbi_bl_list ?_ | refine MI.gbi_bl_dict ?_ | refine MI.gbi_bl_bool ?_ | refine MI.gbi_len_tup ?_ | refine MI.gbi_int1 ?_ | refine MI.gbi_max ?_)
          | with_reducible refine MI.gv_tup ?_
          | with_reducible refine MI.gv_lst ?_
          | with_reducible refine MI.gb_mod (by first | decide | omega) ?_
          | with_reducible refine MI.gb_div (by first | decide | assumption) ?_
          | with_reducible refine MI.gb_mul (by first | decide | assumption) ?_
          | with_reducible refine MI.gb_pow (by decide) ?_
          | with_reducible refine MI.gif_dec_t (by first | assumption | omega | decide) ?_
          | with_reducible refine MI.gif_dec_f (by first | assumption | omega | decide) ?_
          | refine MI.gif_t rfl ?_
          | refine MI.gif_f rfl ?_
          | with_reducible refine MI.grg_of (by omega) (by omega) ?_
          | refine MI.gx_of rfl ?_
          | refine MI.gbi_of rfl ?_
          | refine ⟨_, rfl, ?_⟩
          | refine ⟨_, _, rfl, rfl, ?_⟩
          | refine MI.glc_next rfl ?_
          | refine MI.glc_end rfl ?_
          | refine MI.glf_next rfl ?_
          | refine MI.glf_end rfl ?_
          | refine ⟨Nat.le_of_ble_eq_true rfl, ?_⟩)
        refine s_draw d10 (by omega) (by omega) (by omega) fun r4 st11 a0 a1 d11 f11 => ?_
        have hn11 := (f11.at_ _ nD nL (List.getElem?_eq_some_iff.mp hn10).1).trans hn10
        have m4 := mo hp4 a0 a1
        repeat (first
          | with_reducible (first | refine MI.gss_cons ?_ | refine MI.gss_nil ?_ | refine MI.gn_next ?_ | refine MI.gn_ret ?_ | refine MI.gn_brk ?_ | refine MI.gn_cont ?_ | refine MI.gk_next ?_ | refine MI.gk_cont ?_ | refine MI.gk_brk ?_ | refine MI.gk_ret ?_ | refine MI.gf_ret ?_ | refine MI.gf_next ?_ | refine MI.gs_asg ?_ | refine MI.gs_asgT ?_ | refine MI.gs_par ?_ | refine MI.gs_put ?_ | refine MI.gs_if ?_ | refine MI.gs_ret ?_ | refine MI.gs_retN ?_ | refine MI.gs_expr ?_ | refine MI.gs_pass ?_ | refine MI.gs_brk ?_ | refine MI.gs_cont ?_ | refine MI.gs_while ?_ | refine MI.gs_for ?_ | refine MI.ge_of ?_ | refine MI.ga_val ?_ | refine MI.ga_new ?_ | refine MI.gl_nil ?_ | refine MI.gl_cons ?_ | refine MI.gr_nil ?_ | refine MI.gr_cons ?_ | refine MI.gi_rng ?_ | refine MI.gi_of ?_ | refine MI.gv_name ?_ | refine MI.gv_int ?_ | refine MI.gv_bl ?_ | refine MI.gv_str ?_ | refine MI.gv_non ?_ | refine MI.gv_ty ?_ | refine MI.gv_glob ?_ | refine MI.gv_bin ?_ | refine MI.gv_neg ?_ | refine MI.gv_not ?_ | refine MI.gv_and ?_ | refine MI.gv_or ?_ | refine MI.gand_one ?_ | refine MI.gand_cons ?_ | refine MI.gor_one ?_ | refine MI.gor_cons ?_ | refine MI.gv_cmp ?_ | refine MI.gv_chain ?_ | refine MI.gv_ife ?_ | refine MI.gv_idx ?_ | refine MI.gv_slice ?_ | refine MI.go_none ?_ | refine MI.go_some ?_ | refine MI.gv_rev ?_ | refine MI.gv_call ?_ | refine MI.gv_callK ?_ | refine MI.gv_bi ?_ | refine MI.gv_comp ?_ | refine MI.gv_pop ?_ | refine MI.gv_append ?_ | refine MI.gv_dct ?_ | refine MI.gt_not ?_ | refine MI.gt_and ?_ | refine MI.gt_or ?_ | refine MI.gandt_one ?_ | refine MI.gandt_cons ?_ | refine MI.gort_one ?_ | refine MI.gort_cons ?_ | refine MI.gt_val ?_ | refine MI.gifs_nil ?_ | refine MI.gifs_cons ?_ | refine MI.gif_true ?_ | refine MI.gif_false ?_ | refine MI.gif_not ?_ | refine MI.gb_add ?_ | refine MI.gb_sub ?_ | refine MI.gm_lt ?_ | refine MI.gm_le ?_ | refine MI.gm_gt ?_ | refine MI.gm_ge ?_ | refine MI.gm_eq ?_ | refine MI.gm_ne ?_ | refine MI.gm_seq ?_ | refine MI.gtr_bl ?_ | refine MI.gtr_int ?_ | refine MI.gbi_int_int ?_ | refine MI.gbi_int_bool ?_ | refine MI.gbi_int_tup ?_ | refine MI.gbi_int_list ?_ | refine MI.gbi_int_dict ?_ | refine MI.gbi_tup_tup ?_ | refine MI.gbi_bl_tup ?_ | refine MI.gbi_bl_list ?_ | refine MI.gbi_bl_dict ?_ | refine MI.gbi_bl_bool ?_ | refine MI.gbi_len_tup ?_ | refine MI.gbi_int1 ?_ | refine MI.gbi_max ?_)
          | refine gb_mul m4.1 ?_
          | with_reducible refine MI.gv_tup ?_
          | with_reducible refine MI.gv_lst ?_
          | with_reducible refine MI.gb_mod (by first | decide | omega) ?_
          | with_reducible refine MI.gb_div (by first | decide | assumption) ?_
          | with_reducible refine MI.gb_mul (by first | decide | assumption) ?_
          | with_reducible refine MI.gb_pow (by decide) ?_
          | with_reducible refine MI.gif_dec_t (by first | assumption | omega | decide) ?_
          | with_reducible refine MI.gif_dec_f (by first | assumption | omega | decide) ?_
          | refine MI.gif_t rfl ?_
          | refine MI.gif_f rfl ?_
          | with_reducible refine MI.grg_of (by omega) (by omega) ?_
          | refine MI.gx_of rfl ?_
          | refine MI.gbi_of rfl ?_
          | refine ⟨_, rfl, ?_⟩
          | refine ⟨_, _, rfl, rfl, ?_⟩
          | refine MI.glc_next rfl ?_
          | refine MI.glc_end rfl ?_
          | refine MI.glf_next rfl ?_
          | refine MI.glf_end rfl ?_
          | refine ⟨Nat.le_of_ble_eq_true rfl, ?_⟩)
        refine glc_end (at_cell 4 hn11) ?_
        refine ga_new (gn_next (gss_nil (gn_next ?_)))
        have lt := deck_lt d11
        exact fin _ _ _ _ _ _ m1.2 m2.2 m3.2 m4.2 (by simp) (by omega) (by omega) (d11.new.mono (by omega)) ((f7'.trans (f8.trans (f9.trans (f10.trans f11)))).trans Fr.new)
      · refine gss_nil (gn_next ?_)
        exact fin _ _ _ _ _ _ (sz_mono hp1 (by decide)) (sz_mono hp2 (by decide)) (sz_mono hp3 (by decide)) (sz_mono hp4 (by decide)) hn7 nD nL (d7.mono (by omega)) f7'
end
end K01
end
section
set_option Elab.async false
set_option linter.all false
set_option maxRecDepth 100000
set_option maxHeartbeats 4000000
set_option exponentiation.threshold 3000
namespace K01
open PySem MI
section
variable {d : Nat} {st : Store} {Q : PV → Store → Prop}
theorem p_second {D L N : Nat} {x : Rt} (lx : Low x) (hx : Sz 2100 x) (h : DeckSt D L N st) (hN : N ≤ 40000) (q : ∀ (y : Rt) (st' : Store), Low y → Sz 5000 y → DeckSt D L (N + 300) st' → Fr D L st st' → Q (rv y) st') : GC G (d + 5) 33 [.ref D, rv x] st Q := by
  refine c_law_second ?_
  repeat (first
    | with_reducible (first | refine MI.gss_cons ?_ | refine MI.gss_nil ?_ | refine MI.gn_next ?_ | refine MI.gn_ret ?_ | refine MI.gn_brk ?_ | refine MI.gn_cont ?_ | refine MI.gk_next ?_ | refine MI.gk_cont ?_ | refine MI.gk_brk ?_ | refine MI.gk_ret ?_ | refine MI.gf_ret ?_ | refine MI.gf_next ?_ | refine MI.gs_asg ?_ | refine MI.gs_asgT ?_ | refine MI.gs_par ?_ | refine MI.gs_put ?_ | refine MI.gs_if ?_ | refine MI.gs_ret ?_ | refine MI.gs_retN ?_ | refine MI.gs_expr ?_ | refine MI.gs_pass ?_ | refine MI.gs_brk ?_ | refine MI.gs_cont ?_ | refine MI.gs_while ?_ | refine MI.gs_for ?_ | refine MI.ge_of ?_ | refine MI.ga_val ?_ | refine MI.ga_new ?_ | refine MI.gl_nil ?_ | refine MI.gl_cons ?_ | refine MI.gr_nil ?_ | refine MI.gr_cons ?_ | refine MI.gi_rng ?_ | refine MI.gi_of ?_ | refine MI.gv_name ?_ | refine MI.gv_int ?_ | refine MI.gv_bl ?_ | refine MI.gv_str ?_ | refine MI.gv_non ?_ | refine MI.gv_ty ?_ | refine MI.gv_glob ?_ | refine MI.gv_bin ?_ | refine MI.gv_neg ?_ | refine MI.gv_not ?_ | refine MI.gv_and ?_ | refine MI.gv_or ?_ | refine MI.gand_one ?_ | refine MI.gand_cons ?_ | refine MI.gor_one ?_ | refine MI.gor_cons ?_ | refine MI.gv_cmp ?_ | refine MI.gv_chain ?_ | refine MI.gv_ife ?_ | refine MI.gv_idx ?_ | refine MI.gv_slice ?_ | refine MI.go_none ?_ | refine MI.go_some ?_ | refine MI.gv_rev ?_ | refine MI.gv_call ?_ | refine MI.gv_callK ?_ | refine MI.gv_bi ?_ | refine MI.gv_comp ?_ | refine MI.gv_pop ?_ | refine MI.gv_append ?_ | refine MI.gv_dct ?_ | refine MI.gt_not ?_ | refine MI.gt_and ?_ | refine MI.gt_or ?_ | refine MI.gandt_one ?_ | refine MI.gandt_cons ?_ | refine MI.gort_one ?_ | refine MI.gort_cons ?_ | refine MI.gt_val ?_ | refine MI.gifs_nil ?_ | refine MI.gifs_cons ?_ | refine MI.gif_true ?_ | refine MI.gif_false ?_ | refine MI.gif_not ?_ | refine MI.gb_add ?_ | refine MI.gb_sub ?_ | refine MI.gm_lt ?_ | refine MI.gm_le ?_ | refine MI.gm_gt ?_ | refine MI.gm_ge ?_ | refine MI.gm_eq ?_ | refine MI.gm_ne ?_ | refine MI.gm_seq ?_ | refine MI.gtr_bl ?_ | refine MI.gtr_int ?_ | refine MI.gbi_int_int ?_ | refine MI.gbi_int_bool ?_ | refine MI.gbi_int_tup ?_ | refine MI.gbi_int_list ?_ | refine MI.gbi_int_dict ?_ | refine MI.gbi_tup_tup ?_ | refine MI.gbi_bl_tup ?_ | refine MI.gbi_bl_list ?_ | refine MI.gbi_bl_dict ?_ | refine MI.gbi_bl_bool ?_ | refine MI.gbi_len_tup ?_ | refine MI.gbi_int1 ?_ | refine MI.gbi_max ?_)
    | with_reducible refine MI.gv_tup ?_
    | with_reducible refine MI.gv_lst ?_
    | with_reducible refine MI.gb_mod (by first | decide | omega) ?_
    | with_reducible refine MI.gb_div (by first | decide | assumption) ?_
    | with_reducible refine MI.gb_mul (by first | decide | assumption) ?_
    | with_reducible refine MI.gb_pow (by decide) ?_
    | with_reducible refine MI.gif_dec_t (by first | assumption | omega | decide) ?_
    | with_reducible refine MI.gif_dec_f (by first | assumption | omega | decide) ?_
    | refine MI.gif_t rfl ?_
    | refine MI.gif_f rfl ?_
    | with_reducible refine MI.grg_of (by omega) (by omega) ?_
    | refine MI.gx_of rfl ?_
    | refine MI.gbi_of rfl ?_
    | refine ⟨_, rfl, ?_⟩
    | refine ⟨_, _, rfl, rfl, ?_⟩
    | refine MI.glc_next rfl ?_
    | refine MI.glc_end rfl ?_
    | refine MI.glf_next rfl ?_
    | refine MI.glf_end rfl ?_
    | refine ⟨Nat.le_of_ble_eq_true rfl, ?_⟩)
  refine s_draw h (by omega) (by omega) (by omega) fun way st1 w0 w1 d1 f1 => ?_
  repeat (first
    | with_reducible (first | refine MI.gss_cons ?_ | refine MI.gss_nil ?_ | refine MI.gn_next ?_ | refine MI.gn_ret ?_ | refine MI.gn_brk ?_ | refine MI.gn_cont ?_ | refine MI.gk_next ?_ | refine MI.gk_cont ?_ | refine MI.gk_brk ?_ | refine MI.gk_ret ?_ | refine MI.gf_ret ?_ | refine MI.gf_next ?_ | refine MI.gs_asg ?_ | refine MI.gs_asgT ?_ | refine MI.gs_par ?_ | refine MI.gs_put ?_ | refine MI.gs_if ?_ | refine MI.gs_ret ?_ | refine MI.gs_retN ?_ | refine MI.gs_expr ?_ | refine MI.gs_pass ?_ | refine MI.gs_brk ?_ | refine MI.gs_cont ?_ | refine MI.gs_while ?_ | refine MI.gs_for ?_ | refine MI.ge_of ?_ | refine MI.ga_val ?_ | refine MI.ga_new ?_ | refine MI.gl_nil ?_ | refine MI.gl_cons ?_ | refine MI.gr_nil ?_ | refine MI.gr_cons ?_ | refine MI.gi_rng ?_ | refine MI.gi_of ?_ | refine MI.gv_name ?_ | refine MI.gv_int ?_ | refine MI.gv_bl ?_ | refine MI.gv_str ?_ | refine MI.gv_non ?_ | refine MI.gv_ty ?_ | refine MI.gv_glob ?_ | refine MI.gv_bin ?_ | refine MI.gv_neg ?_ | refine MI.gv_not ?_ | refine MI.gv_and ?_ | refine MI.gv_or ?_ | refine MI.gand_one ?_ | refine MI.gand_cons ?_ | refine MI.gor_one ?_ | refine MI.gor_cons ?_ | refine MI.gv_cmp ?_ | refine MI.gv_chain ?_ | refine MI.gv_ife ?_ | refine MI.gv_idx ?_ | refine MI.gv_slice ?_ | refine MI.go_none ?_ | refine MI.go_some ?_ | refine MI.gv_rev ?_ | refine MI.gv_call ?_ | refine MI.gv_callK ?_ | refine MI.gv_bi ?_ | refine MI.gv_comp ?_ | refine MI.gv_pop ?_ | refine MI.gv_append ?_ | refine MI.gv_dct ?_ | refine MI.gt_not ?_ | refine MI.gt_and ?_ | refine MI.gt_or ?_ | refine MI.gandt_one ?_ | refine MI.gandt_cons ?_ | refine MI.gort_one ?_ | refine MI.gort_cons ?_ | refine MI.gt_val ?_ | refine MI.gifs_nil ?_ | refine MI.gifs_cons ?_ | refine MI.gif_true ?_ | refine MI.gif_false ?_ | refine MI.gif_not ?_ | refine MI.gb_add ?_ | refine MI.gb_sub ?_ | refine MI.gm_lt ?_ | refine MI.gm_le ?_ | refine MI.gm_gt ?_ | refine MI.gm_ge ?_ | refine MI.gm_eq ?_ | refine MI.gm_ne ?_ | refine MI.gm_seq ?_ | refine MI.gtr_bl ?_ | refine MI.gtr_int ?_ | refine MI.gbi_int_int ?_ | refine MI.gbi_int_bool ?_ | refine MI.gbi_int_tup ?_ | refine MI.gbi_int_list ?_ | refine MI.gbi_int_dict ?_ | refine MI.gbi_tup_tup ?_ | refine MI.gbi_bl_tup ?_ | refine MI.gbi_bl_list ?_ | refine MI.gbi_bl_dict ?_ | refine MI.gbi_bl_bool ?_ | refine MI.gbi_len_tup ?_ | refine MI.gbi_int1 ?_ | refine MI.gbi_max ?_)
    | with_reducible refine MI.gv_tup ?_
    | with_reducible refine MI.gv_lst ?_
    | with_reducible refine MI.gb_mod (by first | decide | omega) ?_
    | with_reducible refine MI.gb_div (by first | decide | assumption) ?_
    | with_reducible refine MI.gb_mul (by first | decide | assumption) ?_
    | with_reducible refine MI.gb_pow (by decide) ?_
    | with_reducible refine MI.gif_dec_t (by first | assumption | omega | decide) ?_
    | with_reducible refine MI.gif_dec_f (by first | assumption | omega | decide) ?_
    | refine MI.gif_t rfl ?_
    | refine MI.gif_f rfl ?_
    | with_reducible refine MI.grg_of (by omega) (by omega) ?_
    | refine MI.gx_of rfl ?_
    | refine MI.gbi_of rfl ?_
    | refine ⟨_, rfl, ?_⟩
    | refine ⟨_, _, rfl, rfl, ?_⟩
    | refine MI.glc_next rfl ?_
    | refine MI.glc_end rfl ?_
    | refine MI.glf_next rfl ?_
    | refine MI.glf_end rfl ?_
    | refine ⟨Nat.le_of_ble_eq_true rfl, ?_⟩)
  refine p_root d1 (by omega) fun y st2 ly hy d2 f2 => ?_
  repeat (first
    | with_reducible (first | refine MI.gss_cons ?_ | refine MI.gss_nil ?_ | refine MI.gn_next ?_ | refine MI.gn_ret ?_ | refine MI.gn_brk ?_ | refine MI.gn_cont ?_ | refine MI.gk_next ?_ | refine MI.gk_cont ?_ | refine MI.gk_brk ?_ | refine MI.gk_ret ?_ | refine MI.gf_ret ?_ | refine MI.gf_next ?_ | refine MI.gs_asg ?_ | refine MI.gs_asgT ?_ | refine MI.gs_par ?_ | refine MI.gs_put ?_ | refine MI.gs_if ?_ | refine MI.gs_ret ?_ | refine MI.gs_retN ?_ | refine MI.gs_expr ?_ | refine MI.gs_pass ?_ | refine MI.gs_brk ?_ | refine MI.gs_cont ?_ | refine MI.gs_while ?_ | refine MI.gs_for ?_ | refine MI.ge_of ?_ | refine MI.ga_val ?_ | refine MI.ga_new ?_ | refine MI.gl_nil ?_ | refine MI.gl_cons ?_ | refine MI.gr_nil ?_ | refine MI.gr_cons ?_ | refine MI.gi_rng ?_ | refine MI.gi_of ?_ | refine MI.gv_name ?_ | refine MI.gv_int ?_ | refine MI.gv_bl ?_ | refine MI.gv_str ?_ | refine MI.gv_non ?_ | refine MI.gv_ty ?_ | refine MI.gv_glob ?_ | refine MI.gv_bin ?_ | refine MI.gv_neg ?_ | refine MI.gv_not ?_ | refine MI.gv_and ?_ | refine MI.gv_or ?_ | refine MI.gand_one ?_ | refine MI.gand_cons ?_ | refine MI.gor_one ?_ | refine MI.gor_cons ?_ | refine MI.gv_cmp ?_ | refine MI.gv_chain ?_ | refine MI.gv_ife ?_ | refine MI.gv_idx ?_ | refine MI.gv_slice ?_ | refine MI.go_none ?_ | refine MI.go_some ?_ | refine MI.gv_rev ?_ | refine MI.gv_call ?_ | refine MI.gv_callK ?_ | refine MI.gv_bi ?_ | refine MI.gv_comp ?_ | refine MI.gv_pop ?_ | refine MI.gv_append ?_ | refine MI.gv_dct ?_ | refine MI.gt_not ?_ | refine MI.gt_and ?_ | refine MI.gt_or ?_ | refine MI.gandt_one ?_ | refine MI.gandt_cons ?_ | refine MI.gort_one ?_ | refine MI.gort_cons ?_ | refine MI.gt_val ?_ | refine MI.gifs_nil ?_ | refine MI.gifs_cons ?_ | refine MI.gif_true ?_ | refine MI.gif_false ?_ | refine MI.gif_not ?_ | refine MI.gb_add ?_ | refine MI.gb_sub ?_ | refine MI.gm_lt ?_ | refine MI.gm_le ?_ | refine MI.gm_gt ?_ | refine MI.gm_ge ?_ | refine MI.gm_eq ?_ | refine MI.gm_ne ?_ | refine MI.gm_seq ?_ | refine MI.gtr_bl ?_ | refine MI.gtr_int ?_ | refine MI.gbi_int_int ?_ | refine MI.gbi_int_bool ?_ | refine MI.gbi_int_tup ?_ | refine MI.gbi_int_list ?_ | refine MI.gbi_int_dict ?_ | refine MI.gbi_tup_tup ?_ | refine MI.gbi_bl_tup ?_ | refine MI.gbi_bl_list ?_ | refine MI.gbi_bl_dict ?_ | refine MI.gbi_bl_bool ?_ | refine MI.gbi_len_tup ?_ | refine MI.gbi_int1 ?_ | refine MI.gbi_max ?_)
    | with_reducible refine MI.gv_tup ?_
    | with_reducible refine MI.gv_lst ?_
    | with_reducible refine MI.gb_mod (by first | decide | omega) ?_
    | with_reducible refine MI.gb_div (by first | decide | assumption) ?_
    | with_reducible refine MI.gb_mul (by first | decide | assumption) ?_
    | with_reducible refine MI.gb_pow (by decide) ?_
    | with_reducible refine MI.gif_dec_t (by first | assumption | omega | decide) ?_
    | with_reducible refine MI.gif_dec_f (by first | assumption | omega | decide) ?_
    | refine MI.gif_t rfl ?_
    | refine MI.gif_f rfl ?_
    | with_reducible refine MI.grg_of (by omega) (by omega) ?_
    | refine MI.gx_of rfl ?_
    | refine MI.gbi_of rfl ?_
    | refine ⟨_, rfl, ?_⟩
    | refine ⟨_, _, rfl, rfl, ?_⟩
    | refine MI.glc_next rfl ?_
    | refine MI.glc_end rfl ?_
    | refine MI.glf_next rfl ?_
    | refine MI.glf_end rfl ?_
    | refine ⟨Nat.le_of_ble_eq_true rfl, ?_⟩)
  refine gif_dec (fun h3 => ?_) (fun h3 => ?_)
  · repeat (first
      | with_reducible (first | refine MI.gss_cons ?_ | refine MI.gss_nil ?_ | refine MI.gn_next ?_ | refine MI.gn_ret ?_ | refine MI.gn_brk ?_ | refine MI.gn_cont ?_ | refine MI.gk_next ?_ | refine MI.gk_cont ?_ | refine MI.gk_brk ?_ | refine MI.gk_ret ?_ | refine MI.gf_ret ?_ | refine MI.gf_next ?_ | refine MI.gs_asg ?_ | refine MI.gs_asgT ?_ | refine MI.gs_par ?_ | refine MI.gs_put ?_ | refine MI.gs_if ?_ | refine MI.gs_ret ?_ | refine MI.gs_retN ?_ | refine MI.gs_expr ?_ | refine MI.gs_pass ?_ | refine MI.gs_brk ?_ | refine MI.gs_cont ?_ | refine MI.gs_while ?_ | refine MI.gs_for ?_ | refine MI.ge_of ?_ | refine MI.ga_val ?_ | refine MI.ga_new ?_ | refine MI.gl_nil ?_ | refine MI.gl_cons ?_ | refine MI.gr_nil ?_ | refine MI.gr_cons ?_ | refine MI.gi_rng ?_ | refine MI.gi_of ?_ | refine MI.gv_name ?_ | refine MI.gv_int ?_ | refine MI.gv_bl ?_ | refine MI.gv_str ?_ | refine MI.gv_non ?_ | refine MI.gv_ty ?_ | refine MI.gv_glob ?_ | refine MI.gv_bin ?_ | refine MI.gv_neg ?_ | refine MI.gv_not ?_ | refine MI.gv_and ?_ | refine MI.gv_or ?_ | refine MI.gand_one ?_ | refine MI.gand_cons ?_ | refine MI.gor_one ?_ | refine MI.gor_cons ?_ | refine MI.gv_cmp ?_ | refine MI.gv_chain ?_ | refine MI.gv_ife ?_ | refine MI.gv_idx ?_ | refine MI.gv_slice ?_ | refine MI.go_none ?_ | refine MI.go_some ?_ | refine MI.gv_rev ?_ | refine MI.gv_call ?_ | refine MI.gv_callK ?_ | refine MI.gv_bi ?_ | refine MI.gv_comp ?_ | refine MI.gv_pop ?_ | refine MI.gv_append ?_ | refine MI.gv_dct ?_ | refine MI.gt_not ?_ | refine MI.gt_and ?_ | refine MI.gt_or ?_ | refine MI.gandt_one ?_ | refine MI.gandt_cons ?_ | refine MI.gort_one ?_ | refine MI.gort_cons ?_ | refine MI.gt_val ?_ | refine MI.gifs_nil ?_ | refine MI.gifs_cons ?_ | refine MI.gif_true ?_ | refine MI.gif_false ?_ | refine MI.gif_not ?_ | refine MI.gb_add ?_ | refine MI.gb_sub ?_ | refine MI.gm_lt ?_ | refine MI.gm_le ?_ | refine MI.gm_gt ?_ | refine MI.gm_ge ?_ | refine MI.gm_eq ?_ | refine MI.gm_ne ?_ | refine MI.gm_seq ?_ | refine MI.gtr_bl ?_ | refine MI.gtr_int ?_ | refine MI.gbi_int_int ?_ | refine MI.gbi_int_bool ?_ | refine MI.gbi_int_tup ?_ | refine MI.gbi_int_list ?_ | refine MI.gbi_int_dict ?_ | refine MI.gbi_tup_tup ?_ | refine MI.gbi_bl_tup ?_ | refine MI.gbi_bl_list ?_ | refine MI.gbi_bl_dict ?_ | refine MI.gbi_bl_bool ?_ | refine MI.gbi_len_tup ?_ | refine MI.gbi_int1 ?_ | refine MI.gbi_max ?_)
      | with_reducible refine MI.gv_tup ?_
      | with_reducible refine MI.gv_lst ?_
      | with_reducible refine MI.gb_mod (by first | decide | omega) ?_
      | with_reducible refine MI.gb_div (by first | decide | assumption) ?_
      | with_reducible refine MI.gb_mul (by first | decide | assumption) ?_
      | with_reducible refine MI.gb_pow (by decide) ?_
      | with_reducible refine MI.gif_dec_t (by first | assumption | omega | decide) ?_
      | with_reducible refine MI.gif_dec_f (by first | assumption | omega | decide) ?_
      | refine MI.gif_t rfl ?_
      | refine MI.gif_f rfl ?_
      | with_reducible refine MI.grg_of (by omega) (by omega) ?_
      | refine MI.gx_of rfl ?_
      | refine MI.gbi_of rfl ?_
      | refine ⟨_, rfl, ?_⟩
      | refine ⟨_, _, rfl, rfl, ?_⟩
      | refine MI.glc_next rfl ?_
      | refine MI.glc_end rfl ?_
      | refine MI.glf_next rfl ?_
      | refine MI.glf_end rfl ?_
      | refine ⟨Nat.le_of_ble_eq_true rfl, ?_⟩)
    exact q y _ ly (hy.mono (by decide)) (d2.mono (by omega)) (f1.trans f2)
  · repeat (first
      | with_reducible (first | refine MI.gss_cons ?_ | refine MI.gss_nil ?_ | refine MI.gn_next ?_ | refine MI.gn_ret ?_ | refine MI.gn_brk ?_ | refine MI.gn_cont ?_ | refine MI.gk_next ?_ | refine MI.gk_cont ?_ | refine MI.gk_brk ?_ | refine MI.gk_ret ?_ | refine MI.gf_ret ?_ | refine MI.gf_next ?_ | refine MI.gs_asg ?_ | refine MI.gs_asgT ?_ | refine MI.gs_par ?_ | refine MI.gs_put ?_ | refine MI.gs_if ?_ | refine MI.gs_ret ?_ | refine MI.gs_retN ?_ | refine MI.gs_expr ?_ | refine MI.gs_pass ?_ | refine MI.gs_brk ?_ | refine MI.gs_cont ?_ | refine MI.gs_while ?_ | refine MI.gs_for ?_ | refine MI.ge_of ?_ | refine MI.ga_val ?_ | refine MI.ga_new ?_ | refine MI.gl_nil ?_ | refine MI.gl_cons ?_ | refine MI.gr_nil ?_ | refine MI.gr_cons ?_ | refine MI.gi_rng ?_ | refine MI.gi_of ?_ | refine MI.gv_name ?_ | refine MI.gv_int ?_ | refine MI.gv_bl ?_ | refine MI.gv_str ?_ | refine MI.gv_non ?_ | refine MI.gv_ty ?_ | refine MI.gv_glob ?_ | refine MI.gv_bin ?_ | refine MI.gv_neg ?_ | refine MI.gv_not ?_ | refine MI.gv_and ?_ | refine MI.gv_or ?_ | refine MI.gand_one ?_ | refine MI.gand_cons ?_ | refine MI.gor_one ?_ | refine MI.gor_cons ?_ | refine MI.gv_cmp ?_ | refine MI.gv_chain ?_ | refine MI.gv_ife ?_ | refine MI.gv_idx ?_ | refine MI.gv_slice ?_ | refine MI.go_none ?_ | refine MI.go_some ?_ | refine MI.gv_rev ?_ | refine MI.gv_call ?_ | refine MI.gv_callK ?_ | refine MI.gv_bi ?_ | refine MI.gv_comp ?_ | refine MI.gv_pop ?_ | refine MI.gv_append ?_ | refine MI.gv_dct ?_ | refine MI.gt_not ?_ | refine MI.gt_and ?_ | refine MI.gt_or ?_ | refine MI.gandt_one ?_ | refine MI.gandt_cons ?_ | refine MI.gort_one ?_ | refine MI.gort_cons ?_ | refine MI.gt_val ?_ | refine MI.gifs_nil ?_ | refine MI.gifs_cons ?_ | refine MI.gif_true ?_ | refine MI.gif_false ?_ | refine MI.gif_not ?_ | refine MI.gb_add ?_ | refine MI.gb_sub ?_ | refine MI.gm_lt ?_ | refine MI.gm_le ?_ | refine MI.gm_gt ?_ | refine MI.gm_ge ?_ | refine MI.gm_eq ?_ | refine MI.gm_ne ?_ | refine MI.gm_seq ?_ | refine MI.gtr_bl ?_ | refine MI.gtr_int ?_ | refine MI.gbi_int_int ?_ | refine MI.gbi_int_bool ?_ | refine MI.gbi_int_tup ?_ | refine MI.gbi_int_list ?_ | refine MI.gbi_int_dict ?_ | refine MI.gbi_tup_tup ?_ | refine MI.gbi_bl_tup ?_ | refine MI.gbi_bl_list ?_ | refine MI.gbi_bl_dict ?_ | refine MI.gbi_bl_bool ?_ | refine MI.gbi_len_tup ?_ | refine MI.gbi_int1 ?_ | refine MI.gbi_max ?_)
      | refine p_lminus ?_
      | refine p_lbar ?_
      | with_reducible refine MI.gv_tup ?_
      | with_reducible refine MI.gv_lst ?_
      | with_reducible refine MI.gb_mod (by first | decide | omega) ?_
      | with_reducible refine MI.gb_div (by first | decide | assumption) ?_
      | with_reducible refine MI.gb_mul (by first | decide | assumption) ?_
      | with_reducible refine MI.gb_pow (by decide) ?_
      | with_reducible refine MI.gif_dec_t (by first | assumption | omega | decide) ?_
      | with_reducible refine MI.gif_dec_f (by first | assumption | omega | decide) ?_
      | refine MI.gif_t rfl ?_
      | refine MI.gif_f rfl ?_
      | with_reducible refine MI.grg_of (by omega) (by omega) ?_
      | refine MI.gx_of rfl ?_
      | refine MI.gbi_of rfl ?_
      | refine ⟨_, rfl, ?_⟩
      | refine ⟨_, _, rfl, rfl, ?_⟩
      | refine MI.glc_next rfl ?_
      | refine MI.glc_end rfl ?_
      | refine MI.glf_next rfl ?_
      | refine MI.glf_end rfl ?_
      | refine ⟨Nat.le_of_ble_eq_true rfl, ?_⟩)
    refine s_draw d2 (by omega) (by omega) (by omega) fun j st3 j0 j1 d3 f3 => ?_
    repeat (first
      | with_reducible (first | refine MI.gss_cons ?_ | refine MI.gss_nil ?_ | refine MI.gn_next ?_ | refine MI.gn_ret ?_ | refine MI.gn_brk ?_ | refine MI.gn_cont ?_ | refine MI.gk_next ?_ | refine MI.gk_cont ?_ | refine MI.gk_brk ?_ | refine MI.gk_ret ?_ | refine MI.gf_ret ?_ | refine MI.gf_next ?_ | refine MI.gs_asg ?_ | refine MI.gs_asgT ?_ | refine MI.gs_par ?_ | refine MI.gs_put ?_ | refine MI.gs_if ?_ | refine MI.gs_ret ?_ | refine MI.gs_retN ?_ | refine MI.gs_expr ?_ | refine MI.gs_pass ?_ | refine MI.gs_brk ?_ | refine MI.gs_cont ?_ | refine MI.gs_while ?_ | refine MI.gs_for ?_ | refine MI.ge_of ?_ | refine MI.ga_val ?_ | refine MI.ga_new ?_ | refine MI.gl_nil ?_ | refine MI.gl_cons ?_ | refine MI.gr_nil ?_ | refine MI.gr_cons ?_ | refine MI.gi_rng ?_ | refine MI.gi_of ?_ | refine MI.gv_name ?_ | refine MI.gv_int ?_ | refine MI.gv_bl ?_ | refine MI.gv_str ?_ | refine MI.gv_non ?_ | refine MI.gv_ty ?_ | refine MI.gv_glob ?_ | refine MI.gv_bin ?_ | refine MI.gv_neg ?_ | refine MI.gv_not ?_ | refine MI.gv_and ?_ | refine MI.gv_or ?_ | refine MI.gand_one ?_ | refine MI.gand_cons ?_ | refine MI.gor_one ?_ | refine MI.gor_cons ?_ | refine MI.gv_cmp ?_ | refine MI.gv_chain ?_ | refine MI.gv_ife ?_ | refine MI.gv_idx ?_ | refine MI.gv_slice ?_ | refine MI.go_none ?_ | refine MI.go_some ?_ | refine MI.gv_rev ?_ | refine MI.gv_call ?_ | refine MI.gv_callK ?_ | refine MI.gv_bi ?_ | refine MI.gv_comp ?_ | refine MI.gv_pop ?_ | refine MI.gv_append ?_ | refine MI.gv_dct ?_ | refine MI.gt_not ?_ | refine MI.gt_and ?_ | refine MI.gt_or ?_ | refine MI.gandt_one ?_ | refine MI.gandt_cons ?_ | refine MI.gort_one ?_ | refine MI.gort_cons ?_ | refine MI.gt_val ?_ | refine MI.gifs_nil ?_ | refine MI.gifs_cons ?_ | refine MI.gif_true ?_ | refine MI.gif_false ?_ | refine MI.gif_not ?_ | refine MI.gb_add ?_ | refine MI.gb_sub ?_ | refine MI.gm_lt ?_ | refine MI.gm_le ?_ | refine MI.gm_gt ?_ | refine MI.gm_ge ?_ | refine MI.gm_eq ?_ | refine MI.gm_ne ?_ | refine MI.gm_seq ?_ | refine MI.gtr_bl ?_ | refine MI.gtr_int ?_ | refine MI.gbi_int_int ?_ | refine MI.gbi_int_bool ?_ | refine MI.gbi_int_tup ?_ | refine MI.gbi_int_list ?_ | refine MI.gbi_int_dict ?_ | refine MI.gbi_tup_tup ?_ | refine MI.gbi_bl_tup ?_ | refine MI.gbi_bl_list ?_ | refine MI.gbi_bl_dict ?_ | refine MI.gbi_bl_bool ?_ | refine MI.gbi_len_tup ?_ | refine MI.gbi_int1 ?_ | refine MI.gbi_max ?_)
      | refine p_lturned ?_
      | refine p_lminus ?_
      | refine p_lplus hy hx.neg (by decide) ?_
      | with_reducible refine MI.gv_tup ?_
      | with_reducible refine MI.gv_lst ?_
      | with_reducible refine MI.gb_mod (by first | decide | omega) ?_
      | with_reducible refine MI.gb_div (by first | decide | assumption) ?_
      | with_reducible refine MI.gb_mul (by first | decide | assumption) ?_
      | with_reducible refine MI.gb_pow (by decide) ?_
      | with_reducible refine MI.gif_dec_t (by first | assumption | omega | decide) ?_
      | with_reducible refine MI.gif_dec_f (by first | assumption | omega | decide) ?_
      | refine MI.gif_t rfl ?_
      | refine MI.gif_f rfl ?_
      | with_reducible refine MI.grg_of (by omega) (by omega) ?_
      | refine MI.gx_of rfl ?_
      | refine MI.gbi_of rfl ?_
      | refine ⟨_, rfl, ?_⟩
      | refine ⟨_, _, rfl, rfl, ?_⟩
      | refine MI.glc_next rfl ?_
      | refine MI.glc_end rfl ?_
      | refine MI.glf_next rfl ?_
      | refine MI.glf_end rfl ?_
      | refine ⟨Nat.le_of_ble_eq_true rfl, ?_⟩)
    have hn : (st3 ++ [Cell.lst [rv x, rv (negQ x), rv (barQ x), rv (turnQ (j % 8).toNat x), rv (plusQ y (negQ x))]])[st3.length]? = some (.lst [rv x, rv (negQ x), rv (barQ x), rv (turnQ (j % 8).toNat x), rv (plusQ y (negQ x))]) := by simp
    refine gb_ladd (mut_cell hn) rfl (Nat.le_of_ble_eq_true rfl) ?_
    repeat (first
      | with_reducible (first | refine MI.gss_cons ?_ | refine MI.gss_nil ?_ | refine MI.gn_next ?_ | refine MI.gn_ret ?_ | refine MI.gn_brk ?_ | refine MI.gn_cont ?_ | refine MI.gk_next ?_ | refine MI.gk_cont ?_ | refine MI.gk_brk ?_ | refine MI.gk_ret ?_ | refine MI.gf_ret ?_ | refine MI.gf_next ?_ | refine MI.gs_asg ?_ | refine MI.gs_asgT ?_ | refine MI.gs_par ?_ | refine MI.gs_put ?_ | refine MI.gs_if ?_ | refine MI.gs_ret ?_ | refine MI.gs_retN ?_ | refine MI.gs_expr ?_ | refine MI.gs_pass ?_ | refine MI.gs_brk ?_ | refine MI.gs_cont ?_ | refine MI.gs_while ?_ | refine MI.gs_for ?_ | refine MI.ge_of ?_ | refine MI.ga_val ?_ | refine MI.ga_new ?_ | refine MI.gl_nil ?_ | refine MI.gl_cons ?_ | refine MI.gr_nil ?_ | refine MI.gr_cons ?_ | refine MI.gi_rng ?_ | refine MI.gi_of ?_ | refine MI.gv_name ?_ | refine MI.gv_int ?_ | refine MI.gv_bl ?_ | refine MI.gv_str ?_ | refine MI.gv_non ?_ | refine MI.gv_ty ?_ | refine MI.gv_glob ?_ | refine MI.gv_bin ?_ | refine MI.gv_neg ?_ | refine MI.gv_not ?_ | refine MI.gv_and ?_ | refine MI.gv_or ?_ | refine MI.gand_one ?_ | refine MI.gand_cons ?_ | refine MI.gor_one ?_ | refine MI.gor_cons ?_ | refine MI.gv_cmp ?_ | refine MI.gv_chain ?_ | refine MI.gv_ife ?_ | refine MI.gv_idx ?_ | refine MI.gv_slice ?_ | refine MI.go_none ?_ | refine MI.go_some ?_ | refine MI.gv_rev ?_ | refine MI.gv_call ?_ | refine MI.gv_callK ?_ | refine MI.gv_bi ?_ | refine MI.gv_comp ?_ | refine MI.gv_pop ?_ | refine MI.gv_append ?_ | refine MI.gv_dct ?_ | refine MI.gt_not ?_ | refine MI.gt_and ?_ | refine MI.gt_or ?_ | refine MI.gandt_one ?_ | refine MI.gandt_cons ?_ | refine MI.gort_one ?_ | refine MI.gort_cons ?_ | refine MI.gt_val ?_ | refine MI.gifs_nil ?_ | refine MI.gifs_cons ?_ | refine MI.gif_true ?_ | refine MI.gif_false ?_ | refine MI.gif_not ?_ | refine MI.gb_add ?_ | refine MI.gb_sub ?_ | refine MI.gm_lt ?_ | refine MI.gm_le ?_ | refine MI.gm_gt ?_ | refine MI.gm_ge ?_ | refine MI.gm_eq ?_ | refine MI.gm_ne ?_ | refine MI.gm_seq ?_ | refine MI.gtr_bl ?_ | refine MI.gtr_int ?_ | refine MI.gbi_int_int ?_ | refine MI.gbi_int_bool ?_ | refine MI.gbi_int_tup ?_ | refine MI.gbi_int_list ?_ | refine MI.gbi_int_dict ?_ | refine MI.gbi_tup_tup ?_ | refine MI.gbi_bl_tup ?_ | refine MI.gbi_bl_list ?_ | refine MI.gbi_bl_dict ?_ | refine MI.gbi_bl_bool ?_ | refine MI.gbi_len_tup ?_ | refine MI.gbi_int1 ?_ | refine MI.gbi_max ?_)
      | with_reducible refine MI.gv_tup ?_
      | with_reducible refine MI.gv_lst ?_
      | with_reducible refine MI.gb_mod (by first | decide | omega) ?_
      | with_reducible refine MI.gb_div (by first | decide | assumption) ?_
      | with_reducible refine MI.gb_mul (by first | decide | assumption) ?_
      | with_reducible refine MI.gb_pow (by decide) ?_
      | with_reducible refine MI.gif_dec_t (by first | assumption | omega | decide) ?_
      | with_reducible refine MI.gif_dec_f (by first | assumption | omega | decide) ?_
      | refine MI.gif_t rfl ?_
      | refine MI.gif_f rfl ?_
      | with_reducible refine MI.grg_of (by omega) (by omega) ?_
      | refine MI.gx_of rfl ?_
      | refine MI.gbi_of rfl ?_
      | refine ⟨_, rfl, ?_⟩
      | refine ⟨_, _, rfl, rfl, ?_⟩
      | refine MI.glc_next rfl ?_
      | refine MI.glc_end rfl ?_
      | refine MI.glf_next rfl ?_
      | refine MI.glf_end rfl ?_
      | refine ⟨Nat.le_of_ble_eq_true rfl, ?_⟩)
    refine s_pickN d3.new (by omega) (by simp) (by simp) fun v hv st4 d4 f4 => ?_
    repeat (first
      | with_reducible (first | refine MI.gss_cons ?_ | refine MI.gss_nil ?_ | refine MI.gn_next ?_ | refine MI.gn_ret ?_ | refine MI.gn_brk ?_ | refine MI.gn_cont ?_ | refine MI.gk_next ?_ | refine MI.gk_cont ?_ | refine MI.gk_brk ?_ | refine MI.gk_ret ?_ | refine MI.gf_ret ?_ | refine MI.gf_next ?_ | refine MI.gs_asg ?_ | refine MI.gs_asgT ?_ | refine MI.gs_par ?_ | refine MI.gs_put ?_ | refine MI.gs_if ?_ | refine MI.gs_ret ?_ | refine MI.gs_retN ?_ | refine MI.gs_expr ?_ | refine MI.gs_pass ?_ | refine MI.gs_brk ?_ | refine MI.gs_cont ?_ | refine MI.gs_while ?_ | refine MI.gs_for ?_ | refine MI.ge_of ?_ | refine MI.ga_val ?_ | refine MI.ga_new ?_ | refine MI.gl_nil ?_ | refine MI.gl_cons ?_ | refine MI.gr_nil ?_ | refine MI.gr_cons ?_ | refine MI.gi_rng ?_ | refine MI.gi_of ?_ | refine MI.gv_name ?_ | refine MI.gv_int ?_ | refine MI.gv_bl ?_ | refine MI.gv_str ?_ | refine MI.gv_non ?_ | refine MI.gv_ty ?_ | refine MI.gv_glob ?_ | refine MI.gv_bin ?_ | refine MI.gv_neg ?_ | refine MI.gv_not ?_ | refine MI.gv_and ?_ | refine MI.gv_or ?_ | refine MI.gand_one ?_ | refine MI.gand_cons ?_ | refine MI.gor_one ?_ | refine MI.gor_cons ?_ | refine MI.gv_cmp ?_ | refine MI.gv_chain ?_ | refine MI.gv_ife ?_ | refine MI.gv_idx ?_ | refine MI.gv_slice ?_ | refine MI.go_none ?_ | refine MI.go_some ?_ | refine MI.gv_rev ?_ | refine MI.gv_call ?_ | refine MI.gv_callK ?_ | refine MI.gv_bi ?_ | refine MI.gv_comp ?_ | refine MI.gv_pop ?_ | refine MI.gv_append ?_ | refine MI.gv_dct ?_ | refine MI.gt_not ?_ | refine MI.gt_and ?_ | refine MI.gt_or ?_ | refine MI.gandt_one ?_ | refine MI.gandt_cons ?_ | refine MI.gort_one ?_ | refine MI.gort_cons ?_ | refine MI.gt_val ?_ | refine MI.gifs_nil ?_ | refine MI.gifs_cons ?_ | refine MI.gif_true ?_ | refine MI.gif_false ?_ | refine MI.gif_not ?_ | refine MI.gb_add ?_ | refine MI.gb_sub ?_ | refine MI.gm_lt ?_ | refine MI.gm_le ?_ | refine MI.gm_gt ?_ | refine MI.gm_ge ?_ | refine MI.gm_eq ?_ | refine MI.gm_ne ?_ | refine MI.gm_seq ?_ | refine MI.gtr_bl ?_ | refine MI.gtr_int ?_ | refine MI.gbi_int_int ?_ | refine MI.gbi_int_bool ?_ | refine MI.gbi_int_tup ?_ | refine MI.gbi_int_list ?_ | refine MI.gbi_int_dict ?_ | refine MI.gbi_tup_tup ?_ | refine MI.gbi_bl_tup ?_ | refine MI.gbi_bl_list ?_ | refine MI.gbi_bl_dict ?_ | refine MI.gbi_bl_bool ?_ | refine MI.gbi_len_tup ?_ | refine MI.gbi_int1 ?_ | refine MI.gbi_max ?_)
      | with_reducible refine MI.gv_tup ?_
      | with_reducible refine MI.gv_lst ?_
      | with_reducible refine MI.gb_mod (by first | decide | omega) ?_
      | with_reducible refine MI.gb_div (by first | decide | assumption) ?_
      | with_reducible refine MI.gb_mul (by first | decide | assumption) ?_
      | with_reducible refine MI.gb_pow (by decide) ?_
      | with_reducible refine MI.gif_dec_t (by first | assumption | omega | decide) ?_
      | with_reducible refine MI.gif_dec_f (by first | assumption | omega | decide) ?_
      | refine MI.gif_t rfl ?_
      | refine MI.gif_f rfl ?_
      | with_reducible refine MI.grg_of (by omega) (by omega) ?_
      | refine MI.gx_of rfl ?_
      | refine MI.gbi_of rfl ?_
      | refine ⟨_, rfl, ?_⟩
      | refine ⟨_, _, rfl, rfl, ?_⟩
      | refine MI.glc_next rfl ?_
      | refine MI.glc_end rfl ?_
      | refine MI.glf_next rfl ?_
      | refine MI.glf_end rfl ?_
      | refine ⟨Nat.le_of_ble_eq_true rfl, ?_⟩)
    have hz : ∀ y : Rt, Low y → Sz 5000 y → v = rv y → Q v st4 := fun y h1 h2 e => by
      rw [e]
      exact q _ _ h1 h2 (d4.mono (by omega)) (f1.trans (f2.trans (f3.trans (Fr.new.trans f4))))
    have hp : Sz 5000 (plusQ y (negQ x)) := (plusQ_sz hy hx.neg).mono (by decide)
    simp only [List.mem_append, List.mem_cons, List.not_mem_nil, or_false] at hv
    rcases hv with (e | e | e | e | e) | e
    · exact hz x lx (hx.mono (by decide)) e
    · exact hz _ (low_neg lx) (hx.neg.mono (by decide)) e
    · exact hz _ (low_bar lx) (hx.bar.mono (by decide)) e
    · exact hz _ (low_turn lx _) ((hx.turn _).mono (by decide)) e
    · exact hz _ lowQ_low hp e
    · exact hz _ lowQ_low hp e
theorem deck_other {D L N n : Nat} {st : Store} {c : Cell} (h : DeckSt D L N st) (hD : n ≠ D) (hL : n ≠ L) : DeckSt D L N (st.set n c) := by
  obtain ⟨⟨m, k, h1, h2⟩, ⟨xs, h3, h4⟩, h5⟩ := h
  exact ⟨⟨m, k, at_ne hD h1, h2⟩, ⟨xs, at_ne hL h3, h4⟩, h5⟩
theorem fr_other {D L n : Nat} {st st' : Store} {c : Cell} (h : Fr D L st st') (hn : st.length ≤ n) : Fr D L st (st'.set n c) :=
  ⟨by rw [List.length_set]; exact h.len, fun i h1 h2 h3 => by rw [List.getElem?_set_ne (by omega)]; exact h.at_ i h1 h2 h3⟩
theorem pl_list {n : Nat} {xs : List PV} (h : xs.length ≤ 1000) (h2 : ∀ x ∈ xs, Pl n x) : Pl (n + 1) (.tup xs) := ⟨h, h2⟩
theorem lowQ_four {k : Nat} {f : Fo} : lowQ k f.a f.b f.c f.d = lowF k f := rfl
theorem p_five {D L N : Nat} (h : DeckSt D L N st) (hN : N ≤ 40000) (q : ∀ (st' : Store), DeckSt D L (N + 300) st' → Fr D L st st' → Q (.bl true) st') : GC G (d + 6) 34 [.ref D] st Q := by
  refine c_law_is_five_right ?_
  repeat (first
    | with_reducible (first | refine MI.gss_cons ?_ | refine MI.gss_nil ?_ | refine MI.gn_next ?_ | refine MI.gn_ret ?_ | refine MI.gn_brk ?_ | refine MI.gn_cont ?_ | refine MI.gk_next ?_ | refine MI.gk_cont ?_ | refine MI.gk_brk ?_ | refine MI.gk_ret ?_ | refine MI.gf_ret ?_ | refine MI.gf_next ?_ | refine MI.gs_asg ?_ | refine MI.gs_asgT ?_ | refine MI.gs_par ?_ | refine MI.gs_put ?_ | refine MI.gs_if ?_ | refine MI.gs_ret ?_ | refine MI.gs_retN ?_ | refine MI.gs_expr ?_ | refine MI.gs_pass ?_ | refine MI.gs_brk ?_ | refine MI.gs_cont ?_ | refine MI.gs_while ?_ | refine MI.gs_for ?_ | refine MI.ge_of ?_ | refine MI.ga_val ?_ | refine MI.ga_new ?_ | refine MI.gl_nil ?_ | refine MI.gl_cons ?_ | refine MI.gr_nil ?_ | refine MI.gr_cons ?_ | refine MI.gi_rng ?_ | refine MI.gi_of ?_ | refine MI.gv_name ?_ | refine MI.gv_int ?_ | refine MI.gv_bl ?_ | refine MI.gv_str ?_ | refine MI.gv_non ?_ | refine MI.gv_ty ?_ | refine MI.gv_glob ?_ | refine MI.gv_bin ?_ | refine MI.gv_neg ?_ | refine MI.gv_not ?_ | refine MI.gv_and ?_ | refine MI.gv_or ?_ | refine MI.gand_one ?_ | refine MI.gand_cons ?_ | refine MI.gor_one ?_ | refine MI.gor_cons ?_ | refine MI.gv_cmp ?_ | refine MI.gv_chain ?_ | refine MI.gv_ife ?_ | refine MI.gv_idx ?_ | refine MI.gv_slice ?_ | refine MI.go_none ?_ | refine MI.go_some ?_ | refine MI.gv_rev ?_ | refine MI.gv_call ?_ | refine MI.gv_callK ?_ | refine MI.gv_bi ?_ | refine MI.gv_comp ?_ | refine MI.gv_pop ?_ | refine MI.gv_append ?_ | refine MI.gv_dct ?_ | refine MI.gt_not ?_ | refine MI.gt_and ?_ | refine MI.gt_or ?_ | refine MI.gandt_one ?_ | refine MI.gandt_cons ?_ | refine MI.gort_one ?_ | refine MI.gort_cons ?_ | refine MI.gt_val ?_ | refine MI.gifs_nil ?_ | refine MI.gifs_cons ?_ | refine MI.gif_true ?_ | refine MI.gif_false ?_ | refine MI.gif_not ?_ | refine MI.gb_add ?_ | refine MI.gb_sub ?_ | refine MI.gm_lt ?_ | refine MI.gm_le ?_ | refine MI.gm_gt ?_ | refine MI.gm_ge ?_ | refine MI.gm_eq ?_ | refine MI.gm_ne ?_ | refine MI.gm_seq ?_ | refine MI.gtr_bl ?_ | refine MI.gtr_int ?_ | refine MI.gbi_int_int ?_ | refine MI.gbi_int_bool ?_ | refine MI.gbi_int_tup ?_ | refine MI.gbi_int_list ?_ | refine MI.gbi_int_dict ?_ | refine MI.gbi_tup_tup ?_ | refine MI.gbi_bl_tup ?_ | refine MI.gbi_bl_list ?_ | refine MI.gbi_bl_dict ?_ | refine MI.gbi_bl_bool ?_ | refine MI.gbi_len_tup ?_ | refine MI.gbi_int1 ?_ | refine MI.gbi_max ?_)
    | with_reducible refine MI.gv_tup ?_
    | with_reducible refine MI.gv_lst ?_
    | with_reducible refine MI.gb_mod (by first | decide | omega) ?_
    | with_reducible refine MI.gb_div (by first | decide | assumption) ?_
    | with_reducible refine MI.gb_mul (by first | decide | assumption) ?_
    | with_reducible refine MI.gb_pow (by decide) ?_
    | with_reducible refine MI.gif_dec_t (by first | assumption | omega | decide) ?_
    | with_reducible refine MI.gif_dec_f (by first | assumption | omega | decide) ?_
    | refine MI.gif_t rfl ?_
    | refine MI.gif_f rfl ?_
    | with_reducible refine MI.grg_of (by omega) (by omega) ?_
    | refine MI.gx_of rfl ?_
    | refine MI.gbi_of rfl ?_
    | refine ⟨_, rfl, ?_⟩
    | refine ⟨_, _, rfl, rfl, ?_⟩
    | refine MI.glc_next rfl ?_
    | refine MI.glc_end rfl ?_
    | refine MI.glf_next rfl ?_
    | refine MI.glf_end rfl ?_
    | refine ⟨Nat.le_of_ble_eq_true rfl, ?_⟩)
  refine p_root h (by omega) fun x st1 lx hx d1 f1 => ?_
  refine ga_val (gn_next (gss_cut (R := fun o s => ∃ m : Nat, m ≤ 900 ∧ o = .next [some (.ref D), some (rv x), some (.int (m : Nat)), none, none, none, none] ∧ DeckSt D L (N + 202) s ∧ Fr D L st s) ?_ ?_))
  · have fin : ∀ (c : Int), 0 < c → c ≤ 901 → GC G (d + 5) 21 [.ref D, .tup [.int 3, .int 40, .int c]] st1 fun v s => GC G (d + 5) 20 [.ref D, v] s fun v s => ∃ m : Nat, m ≤ 900 ∧ v = .int (m : Nat) ∧ DeckSt D L (N + 202) s ∧ Fr D L st s := by
      intro c c0 c1
      refine s_pickT d1 (by omega) (by simp) (by simp) fun v hv st2 d2 f2 => ?_
      have hv2 : ∃ c : Int, v = .int c ∧ 0 < c ∧ c ≤ 901 := by
        rcases mem3 hv with rfl | rfl | rfl
        · exact ⟨_, rfl, by decide, by decide⟩
        · exact ⟨_, rfl, by decide, by decide⟩
        · exact ⟨_, rfl, c0, c1⟩
      obtain ⟨c, rfl, c0, c1⟩ := hv2
      refine s_draw d2 (by omega) (by omega) (by omega) fun m st3 m0 m1 d3 f3 => ?_
      exact ⟨m.toNat, by omega, by rw [show ((m.toNat : Nat) : Int) = m by omega], d3.mono (by omega), f1.trans (f2.trans f3)⟩
    repeat (first
      | with_reducible (first | refine MI.gss_cons ?_ | refine MI.gss_nil ?_ | refine MI.gn_next ?_ | refine MI.gn_ret ?_ | refine MI.gn_brk ?_ | refine MI.gn_cont ?_ | refine MI.gk_next ?_ | refine MI.gk_cont ?_ | refine MI.gk_brk ?_ | refine MI.gk_ret ?_ | refine MI.gf_ret ?_ | refine MI.gf_next ?_ | refine MI.gs_asg ?_ | refine MI.gs_asgT ?_ | refine MI.gs_par ?_ | refine MI.gs_put ?_ | refine MI.gs_if ?_ | refine MI.gs_ret ?_ | refine MI.gs_retN ?_ | refine MI.gs_expr ?_ | refine MI.gs_pass ?_ | refine MI.gs_brk ?_ | refine MI.gs_cont ?_ | refine MI.gs_while ?_ | refine MI.gs_for ?_ | refine MI.ge_of ?_ | refine MI.ga_val ?_ | refine MI.ga_new ?_ | refine MI.gl_nil ?_ | refine MI.gl_cons ?_ | refine MI.gr_nil ?_ | refine MI.gr_cons ?_ | refine MI.gi_rng ?_ | refine MI.gi_of ?_ | refine MI.gv_name ?_ | refine MI.gv_int ?_ | refine MI.gv_bl ?_ | refine MI.gv_str ?_ | refine MI.gv_non ?_ | refine MI.gv_ty ?_ | refine MI.gv_glob ?_ | refine MI.gv_bin ?_ | refine MI.gv_neg ?_ | refine MI.gv_not ?_ | refine MI.gv_and ?_ | refine MI.gv_or ?_ | refine MI.gand_one ?_ | refine MI.gand_cons ?_ | refine MI.gor_one ?_ | refine MI.gor_cons ?_ | refine MI.gv_cmp ?_ | refine MI.gv_chain ?_ | refine MI.gv_ife ?_ | refine MI.gv_idx ?_ | refine MI.gv_slice ?_ | refine MI.go_none ?_ | refine MI.go_some ?_ | refine MI.gv_rev ?_ | refine MI.gv_call ?_ | refine MI.gv_callK ?_ | refine MI.gv_bi ?_ | refine MI.gv_comp ?_ | refine MI.gv_pop ?_ | refine MI.gv_append ?_ | refine MI.gv_dct ?_ | refine MI.gt_not ?_ | refine MI.gt_and ?_ | refine MI.gt_or ?_ | refine MI.gandt_one ?_ | refine MI.gandt_cons ?_ | refine MI.gort_one ?_ | refine MI.gort_cons ?_ | refine MI.gt_val ?_ | refine MI.gifs_nil ?_ | refine MI.gifs_cons ?_ | refine MI.gif_true ?_ | refine MI.gif_false ?_ | refine MI.gif_not ?_ | refine MI.gb_add ?_ | refine MI.gb_sub ?_ | refine MI.gm_lt ?_ | refine MI.gm_le ?_ | refine MI.gm_gt ?_ | refine MI.gm_ge ?_ | refine MI.gm_eq ?_ | refine MI.gm_ne ?_ | refine MI.gm_seq ?_ | refine MI.gtr_bl ?_ | refine MI.gtr_int ?_ | refine MI.gbi_int_int ?_ | refine MI.gbi_int_bool ?_ | refine MI.gbi_int_tup ?_ | refine MI.gbi_int_list ?_ | refine MI.gbi_int_dict ?_ | refine MI.gbi_tup_tup ?_ | refine MI.gbi_bl_tup ?_ | refine MI.gbi_bl_list ?_ | refine MI.gbi_bl_dict ?_ | refine MI.gbi_bl_bool ?_ | refine MI.gbi_len_tup ?_ | refine MI.gbi_int1 ?_ | refine MI.gbi_max ?_)
      | with_reducible refine MI.gv_tup ?_
      | with_reducible refine MI.gv_lst ?_
      | with_reducible refine MI.gb_mod (by first | decide | omega) ?_
      | with_reducible refine MI.gb_div (by first | decide | assumption) ?_
      | with_reducible refine MI.gb_mul (by first | decide | assumption) ?_
      | with_reducible refine MI.gb_pow (by decide) ?_
      | with_reducible refine MI.gif_dec_t (by first | assumption | omega | decide) ?_
      | with_reducible refine MI.gif_dec_f (by first | assumption | omega | decide) ?_
      | refine MI.gif_t rfl ?_
      | refine MI.gif_f rfl ?_
      | with_reducible refine MI.grg_of (by omega) (by omega) ?_
      | refine MI.gx_of rfl ?_
      | refine MI.gbi_of rfl ?_
      | refine ⟨_, rfl, ?_⟩
      | refine ⟨_, _, rfl, rfl, ?_⟩
      | refine MI.glc_next rfl ?_
      | refine MI.glc_end rfl ?_
      | refine MI.glf_next rfl ?_
      | refine MI.glf_end rfl ?_
      | refine ⟨Nat.le_of_ble_eq_true rfl, ?_⟩)
    refine gif_dec (fun h3 => ?_) (fun h3 => ?_)
    · repeat (first
        | with_reducible (first | refine MI.gss_cons ?_ | refine MI.gss_nil ?_ | refine MI.gn_next ?_ | refine MI.gn_ret ?_ | refine MI.gn_brk ?_ | refine MI.gn_cont ?_ | refine MI.gk_next ?_ | refine MI.gk_cont ?_ | refine MI.gk_brk ?_ | refine MI.gk_ret ?_ | refine MI.gf_ret ?_ | refine MI.gf_next ?_ | refine MI.gs_asg ?_ | refine MI.gs_asgT ?_ | refine MI.gs_par ?_ | refine MI.gs_put ?_ | refine MI.gs_if ?_ | refine MI.gs_ret ?_ | refine MI.gs_retN ?_ | refine MI.gs_expr ?_ | refine MI.gs_pass ?_ | refine MI.gs_brk ?_ | refine MI.gs_cont ?_ | refine MI.gs_while ?_ | refine MI.gs_for ?_ | refine MI.ge_of ?_ | refine MI.ga_val ?_ | refine MI.ga_new ?_ | refine MI.gl_nil ?_ | refine MI.gl_cons ?_ | refine MI.gr_nil ?_ | refine MI.gr_cons ?_ | refine MI.gi_rng ?_ | refine MI.gi_of ?_ | refine MI.gv_name ?_ | refine MI.gv_int ?_ | refine MI.gv_bl ?_ | refine MI.gv_str ?_ | refine MI.gv_non ?_ | refine MI.gv_ty ?_ | refine MI.gv_glob ?_ | refine MI.gv_bin ?_ | refine MI.gv_neg ?_ | refine MI.gv_not ?_ | refine MI.gv_and ?_ | refine MI.gv_or ?_ | refine MI.gand_one ?_ | refine MI.gand_cons ?_ | refine MI.gor_one ?_ | refine MI.gor_cons ?_ | refine MI.gv_cmp ?_ | refine MI.gv_chain ?_ | refine MI.gv_ife ?_ | refine MI.gv_idx ?_ | refine MI.gv_slice ?_ | refine MI.go_none ?_ | refine MI.go_some ?_ | refine MI.gv_rev ?_ | refine MI.gv_call ?_ | refine MI.gv_callK ?_ | refine MI.gv_bi ?_ | refine MI.gv_comp ?_ | refine MI.gv_pop ?_ | refine MI.gv_append ?_ | refine MI.gv_dct ?_ | refine MI.gt_not ?_ | refine MI.gt_and ?_ | refine MI.gt_or ?_ | refine MI.gandt_one ?_ | refine MI.gandt_cons ?_ | refine MI.gort_one ?_ | refine MI.gort_cons ?_ | refine MI.gt_val ?_ | refine MI.gifs_nil ?_ | refine MI.gifs_cons ?_ | refine MI.gif_true ?_ | refine MI.gif_false ?_ | refine MI.gif_not ?_ | refine MI.gb_add ?_ | refine MI.gb_sub ?_ | refine MI.gm_lt ?_ | refine MI.gm_le ?_ | refine MI.gm_gt ?_ | refine MI.gm_ge ?_ | refine MI.gm_eq ?_ | refine MI.gm_ne ?_ | refine MI.gm_seq ?_ | refine MI.gtr_bl ?_ | refine MI.gtr_int ?_ | refine MI.gbi_int_int ?_ | refine MI.gbi_int_bool ?_ | refine MI.gbi_int_tup ?_ | refine MI.gbi_int_list ?_ | refine MI.gbi_int_dict ?_ | refine MI.gbi_tup_tup ?_ | refine MI.gbi_bl_tup ?_ | refine MI.gbi_bl_list ?_ | refine MI.gbi_bl_dict ?_ | refine MI.gbi_bl_bool ?_ | refine MI.gbi_len_tup ?_ | refine MI.gbi_int1 ?_ | refine MI.gbi_max ?_)
        | with_reducible refine MI.gv_tup ?_
        | with_reducible refine MI.gv_lst ?_
        | with_reducible refine MI.gb_mod (by first | decide | omega) ?_
        | with_reducible refine MI.gb_div (by first | decide | assumption) ?_
        | with_reducible refine MI.gb_mul (by first | decide | assumption) ?_
        | with_reducible refine MI.gb_pow (by decide) ?_
        | with_reducible refine MI.gif_dec_t (by first | assumption | omega | decide) ?_
        | with_reducible refine MI.gif_dec_f (by first | assumption | omega | decide) ?_
        | refine MI.gif_t rfl ?_
        | refine MI.gif_f rfl ?_
        | with_reducible refine MI.grg_of (by omega) (by omega) ?_
        | refine MI.gx_of rfl ?_
        | refine MI.gbi_of rfl ?_
        | refine ⟨_, rfl, ?_⟩
        | refine ⟨_, _, rfl, rfl, ?_⟩
        | refine MI.glc_next rfl ?_
        | refine MI.glc_end rfl ?_
        | refine MI.glf_next rfl ?_
        | refine MI.glf_end rfl ?_
        | refine ⟨Nat.le_of_ble_eq_true rfl, ?_⟩)
      refine gc_imp (fin 901 (by decide) (by decide)) fun v s hh => ?_
      repeat (first
        | with_reducible (first | refine MI.gss_cons ?_ | refine MI.gss_nil ?_ | refine MI.gn_next ?_ | refine MI.gn_ret ?_ | refine MI.gn_brk ?_ | refine MI.gn_cont ?_ | refine MI.gk_next ?_ | refine MI.gk_cont ?_ | refine MI.gk_brk ?_ | refine MI.gk_ret ?_ | refine MI.gf_ret ?_ | refine MI.gf_next ?_ | refine MI.gs_asg ?_ | refine MI.gs_asgT ?_ | refine MI.gs_par ?_ | refine MI.gs_put ?_ | refine MI.gs_if ?_ | refine MI.gs_ret ?_ | refine MI.gs_retN ?_ | refine MI.gs_expr ?_ | refine MI.gs_pass ?_ | refine MI.gs_brk ?_ | refine MI.gs_cont ?_ | refine MI.gs_while ?_ | refine MI.gs_for ?_ | refine MI.ge_of ?_ | refine MI.ga_val ?_ | refine MI.ga_new ?_ | refine MI.gl_nil ?_ | refine MI.gl_cons ?_ | refine MI.gr_nil ?_ | refine MI.gr_cons ?_ | refine MI.gi_rng ?_ | refine MI.gi_of ?_ | refine MI.gv_name ?_ | refine MI.gv_int ?_ | refine MI.gv_bl ?_ | refine MI.gv_str ?_ | refine MI.gv_non ?_ | refine MI.gv_ty ?_ | refine MI.gv_glob ?_ | refine MI.gv_bin ?_ | refine MI.gv_neg ?_ | refine MI.gv_not ?_ | refine MI.gv_and ?_ | refine MI.gv_or ?_ | refine MI.gand_one ?_ | refine MI.gand_cons ?_ | refine MI.gor_one ?_ | refine MI.gor_cons ?_ | refine MI.gv_cmp ?_ | refine MI.gv_chain ?_ | refine MI.gv_ife ?_ | refine MI.gv_idx ?_ | refine MI.gv_slice ?_ | refine MI.go_none ?_ | refine MI.go_some ?_ | refine MI.gv_rev ?_ | refine MI.gv_call ?_ | refine MI.gv_callK ?_ | refine MI.gv_bi ?_ | refine MI.gv_comp ?_ | refine MI.gv_pop ?_ | refine MI.gv_append ?_ | refine MI.gv_dct ?_ | refine MI.gt_not ?_ | refine MI.gt_and ?_ | refine MI.gt_or ?_ | refine MI.gandt_one ?_ | refine MI.gandt_cons ?_ | refine MI.gort_one ?_ | refine MI.gort_cons ?_ | refine MI.gt_val ?_ | refine MI.gifs_nil ?_ | refine MI.gifs_cons ?_ | refine MI.gif_true ?_ | refine MI.gif_false ?_ | refine MI.gif_not ?_ | refine MI.gb_add ?_ | refine MI.gb_sub ?_ | refine MI.gm_lt ?_ | refine MI.gm_le ?_ | refine MI.gm_gt ?_ | refine MI.gm_ge ?_ | refine MI.gm_eq ?_ | refine MI.gm_ne ?_ | refine MI.gm_seq ?_ | refine MI.gtr_bl ?_ | refine MI.gtr_int ?_ | refine MI.gbi_int_int ?_ | refine MI.gbi_int_bool ?_ | refine MI.gbi_int_tup ?_ | refine MI.gbi_int_list ?_ | refine MI.gbi_int_dict ?_ | refine MI.gbi_tup_tup ?_ | refine MI.gbi_bl_tup ?_ | refine MI.gbi_bl_list ?_ | refine MI.gbi_bl_dict ?_ | refine MI.gbi_bl_bool ?_ | refine MI.gbi_len_tup ?_ | refine MI.gbi_int1 ?_ | refine MI.gbi_max ?_)
        | with_reducible refine MI.gv_tup ?_
        | with_reducible refine MI.gv_lst ?_
        | with_reducible refine MI.gb_mod (by first | decide | omega) ?_
        | with_reducible refine MI.gb_div (by first | decide | assumption) ?_
        | with_reducible refine MI.gb_mul (by first | decide | assumption) ?_
        | with_reducible refine MI.gb_pow (by decide) ?_
        | with_reducible refine MI.gif_dec_t (by first | assumption | omega | decide) ?_
        | with_reducible refine MI.gif_dec_f (by first | assumption | omega | decide) ?_
        | refine MI.gif_t rfl ?_
        | refine MI.gif_f rfl ?_
        | with_reducible refine MI.grg_of (by omega) (by omega) ?_
        | refine MI.gx_of rfl ?_
        | refine MI.gbi_of rfl ?_
        | refine ⟨_, rfl, ?_⟩
        | refine ⟨_, _, rfl, rfl, ?_⟩
        | refine MI.glc_next rfl ?_
        | refine MI.glc_end rfl ?_
        | refine MI.glf_next rfl ?_
        | refine MI.glf_end rfl ?_
        | refine ⟨Nat.le_of_ble_eq_true rfl, ?_⟩)
      refine gc_imp hh fun v s ⟨m, hm, e, d3, f3⟩ => ?_
      subst e
      repeat (first
        | with_reducible (first | refine MI.gss_cons ?_ | refine MI.gss_nil ?_ | refine MI.gn_next ?_ | refine MI.gn_ret ?_ | refine MI.gn_brk ?_ | refine MI.gn_cont ?_ | refine MI.gk_next ?_ | refine MI.gk_cont ?_ | refine MI.gk_brk ?_ | refine MI.gk_ret ?_ | refine MI.gf_ret ?_ | refine MI.gf_next ?_ | refine MI.gs_asg ?_ | refine MI.gs_asgT ?_ | refine MI.gs_par ?_ | refine MI.gs_put ?_ | refine MI.gs_if ?_ | refine MI.gs_ret ?_ | refine MI.gs_retN ?_ | refine MI.gs_expr ?_ | refine MI.gs_pass ?_ | refine MI.gs_brk ?_ | refine MI.gs_cont ?_ | refine MI.gs_while ?_ | refine MI.gs_for ?_ | refine MI.ge_of ?_ | refine MI.ga_val ?_ | refine MI.ga_new ?_ | refine MI.gl_nil ?_ | refine MI.gl_cons ?_ | refine MI.gr_nil ?_ | refine MI.gr_cons ?_ | refine MI.gi_rng ?_ | refine MI.gi_of ?_ | refine MI.gv_name ?_ | refine MI.gv_int ?_ | refine MI.gv_bl ?_ | refine MI.gv_str ?_ | refine MI.gv_non ?_ | refine MI.gv_ty ?_ | refine MI.gv_glob ?_ | refine MI.gv_bin ?_ | refine MI.gv_neg ?_ | refine MI.gv_not ?_ | refine MI.gv_and ?_ | refine MI.gv_or ?_ | refine MI.gand_one ?_ | refine MI.gand_cons ?_ | refine MI.gor_one ?_ | refine MI.gor_cons ?_ | refine MI.gv_cmp ?_ | refine MI.gv_chain ?_ | refine MI.gv_ife ?_ | refine MI.gv_idx ?_ | refine MI.gv_slice ?_ | refine MI.go_none ?_ | refine MI.go_some ?_ | refine MI.gv_rev ?_ | refine MI.gv_call ?_ | refine MI.gv_callK ?_ | refine MI.gv_bi ?_ | refine MI.gv_comp ?_ | refine MI.gv_pop ?_ | refine MI.gv_append ?_ | refine MI.gv_dct ?_ | refine MI.gt_not ?_ | refine MI.gt_and ?_ | refine MI.gt_or ?_ | refine MI.gandt_one ?_ | refine MI.gandt_cons ?_ | refine MI.gort_one ?_ | refine MI.gort_cons ?_ | refine MI.gt_val ?_ | refine MI.gifs_nil ?_ | refine MI.gifs_cons ?_ | refine MI.gif_true ?_ | refine MI.gif_false ?_ | refine MI.gif_not ?_ | refine MI.gb_add ?_ | refine MI.gb_sub ?_ | refine MI.gm_lt ?_ | refine MI.gm_le ?_ | refine MI.gm_gt ?_ | refine MI.gm_ge ?_ | refine MI.gm_eq ?_ | refine MI.gm_ne ?_ | refine MI.gm_seq ?_ | refine MI.gtr_bl ?_ | refine MI.gtr_int ?_ | refine MI.gbi_int_int ?_ | refine MI.gbi_int_bool ?_ | refine MI.gbi_int_tup ?_ | refine MI.gbi_int_list ?_ | refine MI.gbi_int_dict ?_ | refine MI.gbi_tup_tup ?_ | refine MI.gbi_bl_tup ?_ | refine MI.gbi_bl_list ?_ | refine MI.gbi_bl_dict ?_ | refine MI.gbi_bl_bool ?_ | refine MI.gbi_len_tup ?_ | refine MI.gbi_int1 ?_ | refine MI.gbi_max ?_)
        | with_reducible refine MI.gv_tup ?_
        | with_reducible refine MI.gv_lst ?_
        | with_reducible refine MI.gb_mod (by first | decide | omega) ?_
        | with_reducible refine MI.gb_div (by first | decide | assumption) ?_
        | with_reducible refine MI.gb_mul (by first | decide | assumption) ?_
        | with_reducible refine MI.gb_pow (by decide) ?_
        | with_reducible refine MI.gif_dec_t (by first | assumption | omega | decide) ?_
        | with_reducible refine MI.gif_dec_f (by first | assumption | omega | decide) ?_
        | refine MI.gif_t rfl ?_
        | refine MI.gif_f rfl ?_
        | with_reducible refine MI.grg_of (by omega) (by omega) ?_
        | refine MI.gx_of rfl ?_
        | refine MI.gbi_of rfl ?_
        | refine ⟨_, rfl, ?_⟩
        | refine ⟨_, _, rfl, rfl, ?_⟩
        | refine MI.glc_next rfl ?_
        | refine MI.glc_end rfl ?_
        | refine MI.glf_next rfl ?_
        | refine MI.glf_end rfl ?_
        | refine ⟨Nat.le_of_ble_eq_true rfl, ?_⟩)
      exact ⟨m, hm, rfl, d3, f3⟩
    · repeat (first
        | with_reducible (first | refine MI.gss_cons ?_ | refine MI.gss_nil ?_ | refine MI.gn_next ?_ | refine MI.gn_ret ?_ | refine MI.gn_brk ?_ | refine MI.gn_cont ?_ | refine MI.gk_next ?_ | refine MI.gk_cont ?_ | refine MI.gk_brk ?_ | refine MI.gk_ret ?_ | refine MI.gf_ret ?_ | refine MI.gf_next ?_ | refine MI.gs_asg ?_ | refine MI.gs_asgT ?_ | refine MI.gs_par ?_ | refine MI.gs_put ?_ | refine MI.gs_if ?_ | refine MI.gs_ret ?_ | refine MI.gs_retN ?_ | refine MI.gs_expr ?_ | refine MI.gs_pass ?_ | refine MI.gs_brk ?_ | refine MI.gs_cont ?_ | refine MI.gs_while ?_ | refine MI.gs_for ?_ | refine MI.ge_of ?_ | refine MI.ga_val ?_ | refine MI.ga_new ?_ | refine MI.gl_nil ?_ | refine MI.gl_cons ?_ | refine MI.gr_nil ?_ | refine MI.gr_cons ?_ | refine MI.gi_rng ?_ | refine MI.gi_of ?_ | refine MI.gv_name ?_ | refine MI.gv_int ?_ | refine MI.gv_bl ?_ | refine MI.gv_str ?_ | refine MI.gv_non ?_ | refine MI.gv_ty ?_ | refine MI.gv_glob ?_ | refine MI.gv_bin ?_ | refine MI.gv_neg ?_ | refine MI.gv_not ?_ | refine MI.gv_and ?_ | refine MI.gv_or ?_ | refine MI.gand_one ?_ | refine MI.gand_cons ?_ | refine MI.gor_one ?_ | refine MI.gor_cons ?_ | refine MI.gv_cmp ?_ | refine MI.gv_chain ?_ | refine MI.gv_ife ?_ | refine MI.gv_idx ?_ | refine MI.gv_slice ?_ | refine MI.go_none ?_ | refine MI.go_some ?_ | refine MI.gv_rev ?_ | refine MI.gv_call ?_ | refine MI.gv_callK ?_ | refine MI.gv_bi ?_ | refine MI.gv_comp ?_ | refine MI.gv_pop ?_ | refine MI.gv_append ?_ | refine MI.gv_dct ?_ | refine MI.gt_not ?_ | refine MI.gt_and ?_ | refine MI.gt_or ?_ | refine MI.gandt_one ?_ | refine MI.gandt_cons ?_ | refine MI.gort_one ?_ | refine MI.gort_cons ?_ | refine MI.gt_val ?_ | refine MI.gifs_nil ?_ | refine MI.gifs_cons ?_ | refine MI.gif_true ?_ | refine MI.gif_false ?_ | refine MI.gif_not ?_ | refine MI.gb_add ?_ | refine MI.gb_sub ?_ | refine MI.gm_lt ?_ | refine MI.gm_le ?_ | refine MI.gm_gt ?_ | refine MI.gm_ge ?_ | refine MI.gm_eq ?_ | refine MI.gm_ne ?_ | refine MI.gm_seq ?_ | refine MI.gtr_bl ?_ | refine MI.gtr_int ?_ | refine MI.gbi_int_int ?_ | refine MI.gbi_int_bool ?_ | refine MI.gbi_int_tup ?_ | refine MI.gbi_int_list ?_ | refine MI.gbi_int_dict ?_ | refine MI.gbi_tup_tup ?_ | refine MI.gbi_bl_tup ?_ | refine MI.gbi_bl_list ?_ | refine MI.gbi_bl_dict ?_ | refine MI.gbi_bl_bool ?_ | refine MI.gbi_len_tup ?_ | refine MI.gbi_int1 ?_ | refine MI.gbi_max ?_)
        | with_reducible refine MI.gv_tup ?_
        | with_reducible refine MI.gv_lst ?_
        | with_reducible refine MI.gb_mod (by first | decide | omega) ?_
        | with_reducible refine MI.gb_div (by first | decide | assumption) ?_
        | with_reducible refine MI.gb_mul (by first | decide | assumption) ?_
        | with_reducible refine MI.gb_pow (by decide) ?_
        | with_reducible refine MI.gif_dec_t (by first | assumption | omega | decide) ?_
        | with_reducible refine MI.gif_dec_f (by first | assumption | omega | decide) ?_
        | refine MI.gif_t rfl ?_
        | refine MI.gif_f rfl ?_
        | with_reducible refine MI.grg_of (by omega) (by omega) ?_
        | refine MI.gx_of rfl ?_
        | refine MI.gbi_of rfl ?_
        | refine ⟨_, rfl, ?_⟩
        | refine ⟨_, _, rfl, rfl, ?_⟩
        | refine MI.glc_next rfl ?_
        | refine MI.glc_end rfl ?_
        | refine MI.glf_next rfl ?_
        | refine MI.glf_end rfl ?_
        | refine ⟨Nat.le_of_ble_eq_true rfl, ?_⟩)
      refine gc_imp (fin 3 (by decide) (by decide)) fun v s hh => ?_
      repeat (first
        | with_reducible (first | refine MI.gss_cons ?_ | refine MI.gss_nil ?_ | refine MI.gn_next ?_ | refine MI.gn_ret ?_ | refine MI.gn_brk ?_ | refine MI.gn_cont ?_ | refine MI.gk_next ?_ | refine MI.gk_cont ?_ | refine MI.gk_brk ?_ | refine MI.gk_ret ?_ | refine MI.gf_ret ?_ | refine MI.gf_next ?_ | refine MI.gs_asg ?_ | refine MI.gs_asgT ?_ | refine MI.gs_par ?_ | refine MI.gs_put ?_ | refine MI.gs_if ?_ | refine MI.gs_ret ?_ | refine MI.gs_retN ?_ | refine MI.gs_expr ?_ | refine MI.gs_pass ?_ | refine MI.gs_brk ?_ | refine MI.gs_cont ?_ | refine MI.gs_while ?_ | refine MI.gs_for ?_ | refine MI.ge_of ?_ | refine MI.ga_val ?_ | refine MI.ga_new ?_ | refine MI.gl_nil ?_ | refine MI.gl_cons ?_ | refine MI.gr_nil ?_ | refine MI.gr_cons ?_ | refine MI.gi_rng ?_ | refine MI.gi_of ?_ | refine MI.gv_name ?_ | refine MI.gv_int ?_ | refine MI.gv_bl ?_ | refine MI.gv_str ?_ | refine MI.gv_non ?_ | refine MI.gv_ty ?_ | refine MI.gv_glob ?_ | refine MI.gv_bin ?_ | refine MI.gv_neg ?_ | refine MI.gv_not ?_ | refine MI.gv_and ?_ | refine MI.gv_or ?_ | refine MI.gand_one ?_ | refine MI.gand_cons ?_ | refine MI.gor_one ?_ | refine MI.gor_cons ?_ | refine MI.gv_cmp ?_ | refine MI.gv_chain ?_ | refine MI.gv_ife ?_ | refine MI.gv_idx ?_ | refine MI.gv_slice ?_ | refine MI.go_none ?_ | refine MI.go_some ?_ | refine MI.gv_rev ?_ | refine MI.gv_call ?_ | refine MI.gv_callK ?_ | refine MI.gv_bi ?_ | refine MI.gv_comp ?_ | refine MI.gv_pop ?_ | refine MI.gv_append ?_ | refine MI.gv_dct ?_ | refine MI.gt_not ?_ | refine MI.gt_and ?_ | refine MI.gt_or ?_ | refine MI.gandt_one ?_ | refine MI.gandt_cons ?_ | refine MI.gort_one ?_ | refine MI.gort_cons ?_ | refine MI.gt_val ?_ | refine MI.gifs_nil ?_ | refine MI.gifs_cons ?_ | refine MI.gif_true ?_ | refine MI.gif_false ?_ | refine MI.gif_not ?_ | refine MI.gb_add ?_ | refine MI.gb_sub ?_ | refine MI.gm_lt ?_ | refine MI.gm_le ?_ | refine MI.gm_gt ?_ | refine MI.gm_ge ?_ | refine MI.gm_eq ?_ | refine MI.gm_ne ?_ | refine MI.gm_seq ?_ | refine MI.gtr_bl ?_ | refine MI.gtr_int ?_ | refine MI.gbi_int_int ?_ | refine MI.gbi_int_bool ?_ | refine MI.gbi_int_tup ?_ | refine MI.gbi_int_list ?_ | refine MI.gbi_int_dict ?_ | refine MI.gbi_tup_tup ?_ | refine MI.gbi_bl_tup ?_ | refine MI.gbi_bl_list ?_ | refine MI.gbi_bl_dict ?_ | refine MI.gbi_bl_bool ?_ | refine MI.gbi_len_tup ?_ | refine MI.gbi_int1 ?_ | refine MI.gbi_max ?_)
        | with_reducible refine MI.gv_tup ?_
        | with_reducible refine MI.gv_lst ?_
        | with_reducible refine MI.gb_mod (by first | decide | omega) ?_
        | with_reducible refine MI.gb_div (by first | decide | assumption) ?_
        | with_reducible refine MI.gb_mul (by first | decide | assumption) ?_
        | with_reducible refine MI.gb_pow (by decide) ?_
        | with_reducible refine MI.gif_dec_t (by first | assumption | omega | decide) ?_
        | with_reducible refine MI.gif_dec_f (by first | assumption | omega | decide) ?_
        | refine MI.gif_t rfl ?_
        | refine MI.gif_f rfl ?_
        | with_reducible refine MI.grg_of (by omega) (by omega) ?_
        | refine MI.gx_of rfl ?_
        | refine MI.gbi_of rfl ?_
        | refine ⟨_, rfl, ?_⟩
        | refine ⟨_, _, rfl, rfl, ?_⟩
        | refine MI.glc_next rfl ?_
        | refine MI.glc_end rfl ?_
        | refine MI.glf_next rfl ?_
        | refine MI.glf_end rfl ?_
        | refine ⟨Nat.le_of_ble_eq_true rfl, ?_⟩)
      refine gc_imp hh fun v s ⟨m, hm, e, d3, f3⟩ => ?_
      subst e
      repeat (first
        | with_reducible (first | refine MI.gss_cons ?_ | refine MI.gss_nil ?_ | refine MI.gn_next ?_ | refine MI.gn_ret ?_ | refine MI.gn_brk ?_ | refine MI.gn_cont ?_ | refine MI.gk_next ?_ | refine MI.gk_cont ?_ | refine MI.gk_brk ?_ | refine MI.gk_ret ?_ | refine MI.gf_ret ?_ | refine MI.gf_next ?_ | refine MI.gs_asg ?_ | refine MI.gs_asgT ?_ | refine MI.gs_par ?_ | refine MI.gs_put ?_ | refine MI.gs_if ?_ | refine MI.gs_ret ?_ | refine MI.gs_retN ?_ | refine MI.gs_expr ?_ | refine MI.gs_pass ?_ | refine MI.gs_brk ?_ | refine MI.gs_cont ?_ | refine MI.gs_while ?_ | refine MI.gs_for ?_ | refine MI.ge_of ?_ | refine MI.ga_val ?_ | refine MI.ga_new ?_ | refine MI.gl_nil ?_ | refine MI.gl_cons ?_ | refine MI.gr_nil ?_ | refine MI.gr_cons ?_ | refine MI.gi_rng ?_ | refine MI.gi_of ?_ | refine MI.gv_name ?_ | refine MI.gv_int ?_ | refine MI.gv_bl ?_ | refine MI.gv_str ?_ | refine MI.gv_non ?_ | refine MI.gv_ty ?_ | refine MI.gv_glob ?_ | refine MI.gv_bin ?_ | refine MI.gv_neg ?_ | refine MI.gv_not ?_ | refine MI.gv_and ?_ | refine MI.gv_or ?_ | refine MI.gand_one ?_ | refine MI.gand_cons ?_ | refine MI.gor_one ?_ | refine MI.gor_cons ?_ | refine MI.gv_cmp ?_ | refine MI.gv_chain ?_ | refine MI.gv_ife ?_ | refine MI.gv_idx ?_ | refine MI.gv_slice ?_ | refine MI.go_none ?_ | refine MI.go_some ?_ | refine MI.gv_rev ?_ | refine MI.gv_call ?_ | refine MI.gv_callK ?_ | refine MI.gv_bi ?_ | refine MI.gv_comp ?_ | refine MI.gv_pop ?_ | refine MI.gv_append ?_ | refine MI.gv_dct ?_ | refine MI.gt_not ?_ | refine MI.gt_and ?_ | refine MI.gt_or ?_ | refine MI.gandt_one ?_ | refine MI.gandt_cons ?_ | refine MI.gort_one ?_ | refine MI.gort_cons ?_ | refine MI.gt_val ?_ | refine MI.gifs_nil ?_ | refine MI.gifs_cons ?_ | refine MI.gif_true ?_ | refine MI.gif_false ?_ | refine MI.gif_not ?_ | refine MI.gb_add ?_ | refine MI.gb_sub ?_ | refine MI.gm_lt ?_ | refine MI.gm_le ?_ | refine MI.gm_gt ?_ | refine MI.gm_ge ?_ | refine MI.gm_eq ?_ | refine MI.gm_ne ?_ | refine MI.gm_seq ?_ | refine MI.gtr_bl ?_ | refine MI.gtr_int ?_ | refine MI.gbi_int_int ?_ | refine MI.gbi_int_bool ?_ | refine MI.gbi_int_tup ?_ | refine MI.gbi_int_list ?_ | refine MI.gbi_int_dict ?_ | refine MI.gbi_tup_tup ?_ | refine MI.gbi_bl_tup ?_ | refine MI.gbi_bl_list ?_ | refine MI.gbi_bl_dict ?_ | refine MI.gbi_bl_bool ?_ | refine MI.gbi_len_tup ?_ | refine MI.gbi_int1 ?_ | refine MI.gbi_max ?_)
        | with_reducible refine MI.gv_tup ?_
        | with_reducible refine MI.gv_lst ?_
        | with_reducible refine MI.gb_mod (by first | decide | omega) ?_
        | with_reducible refine MI.gb_div (by first | decide | assumption) ?_
        | with_reducible refine MI.gb_mul (by first | decide | assumption) ?_
        | with_reducible refine MI.gb_pow (by decide) ?_
        | with_reducible refine MI.gif_dec_t (by first | assumption | omega | decide) ?_
        | with_reducible refine MI.gif_dec_f (by first | assumption | omega | decide) ?_
        | refine MI.gif_t rfl ?_
        | refine MI.gif_f rfl ?_
        | with_reducible refine MI.grg_of (by omega) (by omega) ?_
        | refine MI.gx_of rfl ?_
        | refine MI.gbi_of rfl ?_
        | refine ⟨_, rfl, ?_⟩
        | refine ⟨_, _, rfl, rfl, ?_⟩
        | refine MI.glc_next rfl ?_
        | refine MI.glc_end rfl ?_
        | refine MI.glf_next rfl ?_
        | refine MI.glf_end rfl ?_
        | refine ⟨Nat.le_of_ble_eq_true rfl, ?_⟩)
      exact ⟨m, hm, rfl, d3, f3⟩
  · rintro o s ⟨m, hm, rfl, d3, f3⟩
    refine gn_next ?_
    have kx := hx.k
    have e1 : lowQ (x.k + m) (ups m (four x)).a (ups m (four x)).b (ups m (four x)).c (ups m (four x)).d = x := by
      rw [lowQ_four, lowF_ups, lowQ_id lx]
    repeat (first
      | with_reducible (first | refine MI.gss_cons ?_ | refine MI.gss_nil ?_ | refine MI.gn_next ?_ | refine MI.gn_ret ?_ | refine MI.gn_brk ?_ | refine MI.gn_cont ?_ | refine MI.gk_next ?_ | refine MI.gk_cont ?_ | refine MI.gk_brk ?_ | refine MI.gk_ret ?_ | refine MI.gf_ret ?_ | refine MI.gf_next ?_ | refine MI.gs_asg ?_ | refine MI.gs_asgT ?_ | refine MI.gs_par ?_ | refine MI.gs_put ?_ | refine MI.gs_if ?_ | refine MI.gs_ret ?_ | refine MI.gs_retN ?_ | refine MI.gs_expr ?_ | refine MI.gs_pass ?_ | refine MI.gs_brk ?_ | refine MI.gs_cont ?_ | refine MI.gs_while ?_ | refine MI.gs_for ?_ | refine MI.ge_of ?_ | refine MI.ga_val ?_ | refine MI.ga_new ?_ | refine MI.gl_nil ?_ | refine MI.gl_cons ?_ | refine MI.gr_nil ?_ | refine MI.gr_cons ?_ | refine MI.gi_rng ?_ | refine MI.gi_of ?_ | refine MI.gv_name ?_ | refine MI.gv_int ?_ | refine MI.gv_bl ?_ | refine MI.gv_str ?_ | refine MI.gv_non ?_ | refine MI.gv_ty ?_ | refine MI.gv_glob ?_ | refine MI.gv_bin ?_ | refine MI.gv_neg ?_ | refine MI.gv_not ?_ | refine MI.gv_and ?_ | refine MI.gv_or ?_ | refine MI.gand_one ?_ | refine MI.gand_cons ?_ | refine MI.gor_one ?_ | refine MI.gor_cons ?_ | refine MI.gv_cmp ?_ | refine MI.gv_chain ?_ | refine MI.gv_ife ?_ | refine MI.gv_idx ?_ | refine MI.gv_slice ?_ | refine MI.go_none ?_ | refine MI.go_some ?_ | refine MI.gv_rev ?_ | refine MI.gv_call ?_ | refine MI.gv_callK ?_ | refine MI.gv_bi ?_ | refine MI.gv_comp ?_ | refine MI.gv_pop ?_ | refine MI.gv_append ?_ | refine MI.gv_dct ?_ | refine MI.gt_not ?_ | refine MI.gt_and ?_ | refine MI.gt_or ?_ | refine MI.gandt_one ?_ | refine MI.gandt_cons ?_ | refine MI.gort_one ?_ | refine MI.gort_cons ?_ | refine MI.gt_val ?_ | refine MI.gifs_nil ?_ | refine MI.gifs_cons ?_ | refine MI.gif_true ?_ | refine MI.gif_false ?_ | refine MI.gif_not ?_ | refine MI.gb_add ?_ | refine MI.gb_sub ?_ | refine MI.gm_lt ?_ | refine MI.gm_le ?_ | refine MI.gm_gt ?_ | refine MI.gm_ge ?_ | refine MI.gm_eq ?_ | refine MI.gm_ne ?_ | refine MI.gm_seq ?_ | refine MI.gtr_bl ?_ | refine MI.gtr_int ?_ | refine MI.gbi_int_int ?_ | refine MI.gbi_int_bool ?_ | refine MI.gbi_int_tup ?_ | refine MI.gbi_int_list ?_ | refine MI.gbi_int_dict ?_ | refine MI.gbi_tup_tup ?_ | refine MI.gbi_bl_tup ?_ | refine MI.gbi_bl_list ?_ | refine MI.gbi_bl_dict ?_ | refine MI.gbi_bl_bool ?_ | refine MI.gbi_len_tup ?_ | refine MI.gbi_int1 ?_ | refine MI.gbi_max ?_)
      | refine p_raised (x := four x) (n := m) rfl (by omega) ?_
      | refine p_lowest (k := x.k + m) (by omega) ?_
      | with_reducible refine MI.gv_tup ?_
      | with_reducible refine MI.gv_lst ?_
      | with_reducible refine MI.gb_mod (by first | decide | omega) ?_
      | with_reducible refine MI.gb_div (by first | decide | assumption) ?_
      | with_reducible refine MI.gb_mul (by first | decide | assumption) ?_
      | with_reducible refine MI.gb_pow (by decide) ?_
      | with_reducible refine MI.gif_dec_t (by first | assumption | omega | decide) ?_
      | with_reducible refine MI.gif_dec_f (by first | assumption | omega | decide) ?_
      | refine MI.gif_t rfl ?_
      | refine MI.gif_f rfl ?_
      | with_reducible refine MI.grg_of (by omega) (by omega) ?_
      | refine MI.gx_of rfl ?_
      | refine MI.gbi_of rfl ?_
      | refine ⟨_, rfl, ?_⟩
      | refine ⟨_, _, rfl, rfl, ?_⟩
      | refine MI.glc_next rfl ?_
      | refine MI.glc_end rfl ?_
      | refine MI.glf_next rfl ?_
      | refine MI.glf_end rfl ?_
      | refine ⟨Nat.le_of_ble_eq_true rfl, ?_⟩)
    rw [e1]
    have hn : (s ++ [Cell.lst [rv x]])[s.length]? = some (.lst [rv x]) := by simp
    have lt := deck_lt d3
    have nD : s.length ≠ D := by omega
    have nL : s.length ≠ L := by omega
    have d4 := d3.new (c := Cell.lst [rv x])
    have f4 := f3.trans (Fr.new (c := Cell.lst [rv x]))
    refine ⟨s.length, _, _, rfl, hn, hn, Nat.le_of_ble_eq_true rfl, ?_⟩
    have hnn := f3.len
    generalize s.length = n at *
    generalize s ++ [Cell.lst [rv x]] = st4 at *
    have hn5 : (st4.set n (.lst ([rv x] ++ [rv x])))[n]? = some (.lst ([rv x] ++ [rv x])) := at_self hn
    have d5 : DeckSt D L (N + 202) (st4.set n (.lst ([rv x] ++ [rv x]))) := deck_other d4 nD nL
    have f5 : Fr D L st (st4.set n (.lst ([rv x] ++ [rv x]))) := fr_other f4 hnn
    generalize st4.set n (.lst ([rv x] ++ [rv x])) = st5 at *
    repeat (first
      | with_reducible (first | refine MI.gss_cons ?_ | refine MI.gss_nil ?_ | refine MI.gn_next ?_ | refine MI.gn_ret ?_ | refine MI.gn_brk ?_ | refine MI.gn_cont ?_ | refine MI.gk_next ?_ | refine MI.gk_cont ?_ | refine MI.gk_brk ?_ | refine MI.gk_ret ?_ | refine MI.gf_ret ?_ | refine MI.gf_next ?_ | refine MI.gs_asg ?_ | refine MI.gs_asgT ?_ | refine MI.gs_par ?_ | refine MI.gs_put ?_ | refine MI.gs_if ?_ | refine MI.gs_ret ?_ | refine MI.gs_retN ?_ | refine MI.gs_expr ?_ | refine MI.gs_pass ?_ | refine MI.gs_brk ?_ | refine MI.gs_cont ?_ | refine MI.gs_while ?_ | refine MI.gs_for ?_ | refine MI.ge_of ?_ | refine MI.ga_val ?_ | refine MI.ga_new ?_ | refine MI.gl_nil ?_ | refine MI.gl_cons ?_ | refine MI.gr_nil ?_ | refine MI.gr_cons ?_ | refine MI.gi_rng ?_ | refine MI.gi_of ?_ | refine MI.gv_name ?_ | refine MI.gv_int ?_ | refine MI.gv_bl ?_ | refine MI.gv_str ?_ | refine MI.gv_non ?_ | refine MI.gv_ty ?_ | refine MI.gv_glob ?_ | refine MI.gv_bin ?_ | refine MI.gv_neg ?_ | refine MI.gv_not ?_ | refine MI.gv_and ?_ | refine MI.gv_or ?_ | refine MI.gand_one ?_ | refine MI.gand_cons ?_ | refine MI.gor_one ?_ | refine MI.gor_cons ?_ | refine MI.gv_cmp ?_ | refine MI.gv_chain ?_ | refine MI.gv_ife ?_ | refine MI.gv_idx ?_ | refine MI.gv_slice ?_ | refine MI.go_none ?_ | refine MI.go_some ?_ | refine MI.gv_rev ?_ | refine MI.gv_call ?_ | refine MI.gv_callK ?_ | refine MI.gv_bi ?_ | refine MI.gv_comp ?_ | refine MI.gv_pop ?_ | refine MI.gv_append ?_ | refine MI.gv_dct ?_ | refine MI.gt_not ?_ | refine MI.gt_and ?_ | refine MI.gt_or ?_ | refine MI.gandt_one ?_ | refine MI.gandt_cons ?_ | refine MI.gort_one ?_ | refine MI.gort_cons ?_ | refine MI.gt_val ?_ | refine MI.gifs_nil ?_ | refine MI.gifs_cons ?_ | refine MI.gif_true ?_ | refine MI.gif_false ?_ | refine MI.gif_not ?_ | refine MI.gb_add ?_ | refine MI.gb_sub ?_ | refine MI.gm_lt ?_ | refine MI.gm_le ?_ | refine MI.gm_gt ?_ | refine MI.gm_ge ?_ | refine MI.gm_eq ?_ | refine MI.gm_ne ?_ | refine MI.gm_seq ?_ | refine MI.gtr_bl ?_ | refine MI.gtr_int ?_ | refine MI.gbi_int_int ?_ | refine MI.gbi_int_bool ?_ | refine MI.gbi_int_tup ?_ | refine MI.gbi_int_list ?_ | refine MI.gbi_int_dict ?_ | refine MI.gbi_tup_tup ?_ | refine MI.gbi_bl_tup ?_ | refine MI.gbi_bl_list ?_ | refine MI.gbi_bl_dict ?_ | refine MI.gbi_bl_bool ?_ | refine MI.gbi_len_tup ?_ | refine MI.gbi_int1 ?_ | refine MI.gbi_max ?_)
      | with_reducible refine MI.gv_tup ?_
      | with_reducible refine MI.gv_lst ?_
      | with_reducible refine MI.gb_mod (by first | decide | omega) ?_
      | with_reducible refine MI.gb_div (by first | decide | assumption) ?_
      | with_reducible refine MI.gb_mul (by first | decide | assumption) ?_
      | with_reducible refine MI.gb_pow (by decide) ?_
      | with_reducible refine MI.gif_dec_t (by first | assumption | omega | decide) ?_
      | with_reducible refine MI.gif_dec_f (by first | assumption | omega | decide) ?_
      | refine MI.gif_t rfl ?_
      | refine MI.gif_f rfl ?_
      | with_reducible refine MI.grg_of (by omega) (by omega) ?_
      | refine MI.gx_of rfl ?_
      | refine MI.gbi_of rfl ?_
      | refine ⟨_, rfl, ?_⟩
      | refine ⟨_, _, rfl, rfl, ?_⟩
      | refine MI.glc_next rfl ?_
      | refine MI.glc_end rfl ?_
      | refine MI.glf_next rfl ?_
      | refine MI.glf_end rfl ?_
      | refine ⟨Nat.le_of_ble_eq_true rfl, ?_⟩)
    refine s_draw d5 (by omega) (by omega) (by omega) fun at_ st6 a0 a1 d6 f6 => ?_
    have hn6 := (f6.at_ _ nD nL (List.getElem?_eq_some_iff.mp hn5).1).trans hn5
    refine ga_val (gn_next (gss_cut (R := fun o s => True → ∃ (w : Fo), o = .next [some (.ref D), some (rv x), some (.int (m : Nat)), some (fv (ups m (four x))), some (.ref n), some (.int at_), some (fv w)] ∧ s[n]? = some (.lst ([rv x] ++ [rv x])) ∧ DeckSt D L (N + 204) s ∧ Fr D L st s) ?_ ?_))
    · have hv3 : ∀ v, v ∈ [PV.int 1, .int (-1), .int 2] → ∃ c, v = .int c := fun v hv => by
        rcases mem3 hv with rfl | rfl | rfl <;> exact ⟨_, rfl⟩
      obtain rfl | rfl | rfl | rfl : at_ = 0 ∨ at_ = 1 ∨ at_ = 2 ∨ at_ = 3 := by omega
      · repeat (first
          | with_reducible (first | refine MI.gss_cons ?_ | refine MI.gss_nil ?_ | refine MI.gn_next ?_ | refine MI.gn_ret ?_ | refine MI.gn_brk ?_ | refine MI.gn_cont ?_ | refine MI.gk_next ?_ | refine MI.gk_cont ?_ | refine MI.gk_brk ?_ | refine MI.gk_ret ?_ | refine MI.gf_ret ?_ | refine MI.gf_next ?_ | refine MI.gs_asg ?_ | refine MI.gs_asgT ?_ | refine MI.gs_par ?_ | refine MI.gs_put ?_ | refine MI.gs_if ?_ | refine MI.gs_ret ?_ | refine MI.gs_retN ?_ | refine MI.gs_expr ?_ | refine MI.gs_pass ?_ | refine MI.gs_brk ?_ | refine MI.gs_cont ?_ | refine MI.gs_while ?_ | refine MI.gs_for ?_ | refine MI.ge_of ?_ | refine MI.ga_val ?_ | refine MI.ga_new ?_ | refine MI.gl_nil ?_ | refine MI.gl_cons ?_ | refine MI.gr_nil ?_ | refine MI.gr_cons ?_ | refine MI.gi_rng ?_ | refine MI.gi_of ?_ | refine MI.gv_name ?_ | refine MI.gv_int ?_ | refine MI.gv_bl ?_ | refine MI.gv_str ?_ | refine MI.gv_non ?_ | refine MI.gv_ty ?_ | refine MI.gv_glob ?_ | refine MI.gv_bin ?_ | refine MI.gv_neg ?_ | refine MI.gv_not ?_ | refine MI.gv_and ?_ | refine MI.gv_or ?_ | refine MI.gand_one ?_ | refine MI.gand_cons ?_ | refine MI.gor_one ?_ | refine MI.gor_cons ?_ | refine MI.gv_cmp ?_ | refine MI.gv_chain ?_ | refine MI.gv_ife ?_ | refine MI.gv_idx ?_ | refine MI.gv_slice ?_ | refine MI.go_none ?_ | refine MI.go_some ?_ | refine MI.gv_rev ?_ | refine MI.gv_call ?_ | refine MI.gv_callK ?_ | refine MI.gv_bi ?_ | refine MI.gv_comp ?_ | refine MI.gv_pop ?_ | refine MI.gv_append ?_ | refine MI.gv_dct ?_ | refine MI.gt_not ?_ | refine MI.gt_and ?_ | refine MI.gt_or ?_ | refine MI.gandt_one ?_ | refine MI.gandt_cons ?_ | refine MI.gort_one ?_ | refine MI.gort_cons ?_ | refine MI.gt_val ?_ | refine MI.gifs_nil ?_ | refine MI.gifs_cons ?_ | refine MI.gif_true ?_ | refine MI.gif_false ?_ | refine MI.gif_not ?_ | refine MI.gb_add ?_ | refine MI.gb_sub ?_ | refine MI.gm_lt ?_ | refine MI.gm_le ?_ | refine MI.gm_gt ?_ | refine MI.gm_ge ?_ | refine MI.gm_eq ?_ | refine MI.gm_ne ?_ | refine MI.gm_seq ?_ | refine MI.gtr_bl ?_ | refine MI.gtr_int ?_ | refine MI.gbi_int_int ?_ | refine MI.gbi_int_bool ?_ | refine MI.gbi_int_tup ?_ | refine MI.gbi_int_list ?_ | refine MI.gbi_int_dict ?_ | refine MI.gbi_tup_tup ?_ | refine MI.gbi_bl_tup ?_ | refine MI.gbi_bl_list ?_ | refine MI.gbi_bl_dict ?_ | refine MI.gbi_bl_bool ?_ | refine MI.gbi_len_tup ?_ | refine MI.gbi_int1 ?_ | refine MI.gbi_max ?_)
          | with_reducible refine MI.gv_tup ?_
          | with_reducible refine MI.gv_lst ?_
          | with_reducible refine MI.gb_mod (by first | decide | omega) ?_
          | with_reducible refine MI.gb_div (by first | decide | assumption) ?_
          | with_reducible refine MI.gb_mul (by first | decide | assumption) ?_
          | with_reducible refine MI.gb_pow (by decide) ?_
          | with_reducible refine MI.gif_dec_t (by first | assumption | omega | decide) ?_
          | with_reducible refine MI.gif_dec_f (by first | assumption | omega | decide) ?_
          | refine MI.gif_t rfl ?_
          | refine MI.gif_f rfl ?_
          | with_reducible refine MI.grg_of (by omega) (by omega) ?_
          | refine MI.gx_of rfl ?_
          | refine MI.gbi_of rfl ?_
          | refine ⟨_, rfl, ?_⟩
          | refine ⟨_, _, rfl, rfl, ?_⟩
          | refine MI.glc_next rfl ?_
          | refine MI.glc_end rfl ?_
          | refine MI.glf_next rfl ?_
          | refine MI.glf_end rfl ?_
          | refine ⟨Nat.le_of_ble_eq_true rfl, ?_⟩)
        refine s_pickN d6 (by omega) (by decide) (by decide) fun v hv st7 d7 f7 => ?_
        obtain ⟨c, rfl⟩ := hv3 v hv
        have hn7 := (f7.at_ _ nD nL (List.getElem?_eq_some_iff.mp hn6).1).trans hn6
        repeat (first
          | with_reducible (first | refine MI.gss_cons ?_ | refine MI.gss_nil ?_ | refine MI.gn_next ?_ | refine MI.gn_ret ?_ | refine MI.gn_brk ?_ | refine MI.gn_cont ?_ | refine MI.gk_next ?_ | refine MI.gk_cont ?_ | refine MI.gk_brk ?_ | refine MI.gk_ret ?_ | refine MI.gf_ret ?_ | refine MI.gf_next ?_ | refine MI.gs_asg ?_ | refine MI.gs_asgT ?_ | refine MI.gs_par ?_ | refine MI.gs_put ?_ | refine MI.gs_if ?_ | refine MI.gs_ret ?_ | refine MI.gs_retN ?_ | refine MI.gs_expr ?_ | refine MI.gs_pass ?_ | refine MI.gs_brk ?_ | refine MI.gs_cont ?_ | refine MI.gs_while ?_ | refine MI.gs_for ?_ | refine MI.ge_of ?_ | refine MI.ga_val ?_ | refine MI.ga_new ?_ | refine MI.gl_nil ?_ | refine MI.gl_cons ?_ | refine MI.gr_nil ?_ | refine MI.gr_cons ?_ | refine MI.gi_rng ?_ | refine MI.gi_of ?_ | refine MI.gv_name ?_ | refine MI.gv_int ?_ | refine MI.gv_bl ?_ | refine MI.gv_str ?_ | refine MI.gv_non ?_ | refine MI.gv_ty ?_ | refine MI.gv_glob ?_ | refine MI.gv_bin ?_ | refine MI.gv_neg ?_ | refine MI.gv_not ?_ | refine MI.gv_and ?_ | refine MI.gv_or ?_ | refine MI.gand_one ?_ | refine MI.gand_cons ?_ | refine MI.gor_one ?_ | refine MI.gor_cons ?_ | refine MI.gv_cmp ?_ | refine MI.gv_chain ?_ | refine MI.gv_ife ?_ | refine MI.gv_idx ?_ | refine MI.gv_slice ?_ | refine MI.go_none ?_ | refine MI.go_some ?_ | refine MI.gv_rev ?_ | refine MI.gv_call ?_ | refine MI.gv_callK ?_ | refine MI.gv_bi ?_ | refine MI.gv_comp ?_ | refine MI.gv_pop ?_ | refine MI.gv_append ?_ | refine MI.gv_dct ?_ | refine MI.gt_not ?_ | refine MI.gt_and ?_ | refine MI.gt_or ?_ | refine MI.gandt_one ?_ | refine MI.gandt_cons ?_ | refine MI.gort_one ?_ | refine MI.gort_cons ?_ | refine MI.gt_val ?_ | refine MI.gifs_nil ?_ | refine MI.gifs_cons ?_ | refine MI.gif_true ?_ | refine MI.gif_false ?_ | refine MI.gif_not ?_ | refine MI.gb_add ?_ | refine MI.gb_sub ?_ | refine MI.gm_lt ?_ | refine MI.gm_le ?_ | refine MI.gm_gt ?_ | refine MI.gm_ge ?_ | refine MI.gm_eq ?_ | refine MI.gm_ne ?_ | refine MI.gm_seq ?_ | refine MI.gtr_bl ?_ | refine MI.gtr_int ?_ | refine MI.gbi_int_int ?_ | refine MI.gbi_int_bool ?_ | refine MI.gbi_int_tup ?_ | refine MI.gbi_int_list ?_ | refine MI.gbi_int_dict ?_ | refine MI.gbi_tup_tup ?_ | refine MI.gbi_bl_tup ?_ | refine MI.gbi_bl_list ?_ | refine MI.gbi_bl_dict ?_ | refine MI.gbi_bl_bool ?_ | refine MI.gbi_len_tup ?_ | refine MI.gbi_int1 ?_ | refine MI.gbi_max ?_)
          | refine gb_tadd (Nat.le_of_ble_eq_true rfl) ?_
          | with_reducible refine MI.gv_tup ?_
          | with_reducible refine MI.gv_lst ?_
          | with_reducible refine MI.gb_mod (by first | decide | omega) ?_
          | with_reducible refine MI.gb_div (by first | decide | assumption) ?_
          | with_reducible refine MI.gb_mul (by first | decide | assumption) ?_
          | with_reducible refine MI.gb_pow (by decide) ?_
          | with_reducible refine MI.gif_dec_t (by first | assumption | omega | decide) ?_
          | with_reducible refine MI.gif_dec_f (by first | assumption | omega | decide) ?_
          | refine MI.gif_t rfl ?_
          | refine MI.gif_f rfl ?_
          | with_reducible refine MI.grg_of (by omega) (by omega) ?_
          | refine MI.gx_of rfl ?_
          | refine MI.gbi_of rfl ?_
          | refine ⟨_, rfl, ?_⟩
          | refine ⟨_, _, rfl, rfl, ?_⟩
          | refine MI.glc_next rfl ?_
          | refine MI.glc_end rfl ?_
          | refine MI.glf_next rfl ?_
          | refine MI.glf_end rfl ?_
          | refine ⟨Nat.le_of_ble_eq_true rfl, ?_⟩)
        exact fun _ => ⟨⟨(ups m (four x)).a + c, (ups m (four x)).b, (ups m (four x)).c, (ups m (four x)).d⟩, rfl, hn7, d7.mono (by omega), f5.trans (f6.trans f7)⟩
      · repeat (first
          | with_reducible (first | refine MI.gss_cons ?_ | refine MI.gss_nil ?_ | refine MI.gn_next ?_ | refine MI.gn_ret ?_ | refine MI.gn_brk ?_ | refine MI.gn_cont ?_ | refine MI.gk_next ?_ | refine MI.gk_cont ?_ | refine MI.gk_brk ?_ | refine MI.gk_ret ?_ | refine MI.gf_ret ?_ | refine MI.gf_next ?_ | refine MI.gs_asg ?_ | refine MI.gs_asgT ?_ | refine MI.gs_par ?_ | refine MI.gs_put ?_ | refine MI.gs_if ?_ | refine MI.gs_ret ?_ | refine MI.gs_retN ?_ | refine MI.gs_expr ?_ | refine MI.gs_pass ?_ | refine MI.gs_brk ?_ | refine MI.gs_cont ?_ | refine MI.gs_while ?_ | refine MI.gs_for ?_ | refine MI.ge_of ?_ | refine MI.ga_val ?_ | refine MI.ga_new ?_ | refine MI.gl_nil ?_ | refine MI.gl_cons ?_ | refine MI.gr_nil ?_ | refine MI.gr_cons ?_ | refine MI.gi_rng ?_ | refine MI.gi_of ?_ | refine MI.gv_name ?_ | refine MI.gv_int ?_ | refine MI.gv_bl ?_ | refine MI.gv_str ?_ | refine MI.gv_non ?_ | refine MI.gv_ty ?_ | refine MI.gv_glob ?_ | refine MI.gv_bin ?_ | refine MI.gv_neg ?_ | refine MI.gv_not ?_ | refine MI.gv_and ?_ | refine MI.gv_or ?_ | refine MI.gand_one ?_ | refine MI.gand_cons ?_ | refine MI.gor_one ?_ | refine MI.gor_cons ?_ | refine MI.gv_cmp ?_ | refine MI.gv_chain ?_ | refine MI.gv_ife ?_ | refine MI.gv_idx ?_ | refine MI.gv_slice ?_ | refine MI.go_none ?_ | refine MI.go_some ?_ | refine MI.gv_rev ?_ | refine MI.gv_call ?_ | refine MI.gv_callK ?_ | refine MI.gv_bi ?_ | refine MI.gv_comp ?_ | refine MI.gv_pop ?_ | refine MI.gv_append ?_ | refine MI.gv_dct ?_ | refine MI.gt_not ?_ | refine MI.gt_and ?_ | refine MI.gt_or ?_ | refine MI.gandt_one ?_ | refine MI.gandt_cons ?_ | refine MI.gort_one ?_ | refine MI.gort_cons ?_ | refine MI.gt_val ?_ | refine MI.gifs_nil ?_ | refine MI.gifs_cons ?_ | refine MI.gif_true ?_ | refine MI.gif_false ?_ | refine MI.gif_not ?_ | refine MI.gb_add ?_ | refine MI.gb_sub ?_ | refine MI.gm_lt ?_ | refine MI.gm_le ?_ | refine MI.gm_gt ?_ | refine MI.gm_ge ?_ | refine MI.gm_eq ?_ | refine MI.gm_ne ?_ | refine MI.gm_seq ?_ | refine MI.gtr_bl ?_ | refine MI.gtr_int ?_ | refine MI.gbi_int_int ?_ | refine MI.gbi_int_bool ?_ | refine MI.gbi_int_tup ?_ | refine MI.gbi_int_list ?_ | refine MI.gbi_int_dict ?_ | refine MI.gbi_tup_tup ?_ | refine MI.gbi_bl_tup ?_ | refine MI.gbi_bl_list ?_ | refine MI.gbi_bl_dict ?_ | refine MI.gbi_bl_bool ?_ | refine MI.gbi_len_tup ?_ | refine MI.gbi_int1 ?_ | refine MI.gbi_max ?_)
          | with_reducible refine MI.gv_tup ?_
          | with_reducible refine MI.gv_lst ?_
          | with_reducible refine MI.gb_mod (by first | decide | omega) ?_
          | with_reducible refine MI.gb_div (by first | decide | assumption) ?_
          | with_reducible refine MI.gb_mul (by first | decide | assumption) ?_
          | with_reducible refine MI.gb_pow (by decide) ?_
          | with_reducible refine MI.gif_dec_t (by first | assumption | omega | decide) ?_
          | with_reducible refine MI.gif_dec_f (by first | assumption | omega | decide) ?_
          | refine MI.gif_t rfl ?_
          | refine MI.gif_f rfl ?_
          | with_reducible refine MI.grg_of (by omega) (by omega) ?_
          | refine MI.gx_of rfl ?_
          | refine MI.gbi_of rfl ?_
          | refine ⟨_, rfl, ?_⟩
          | refine ⟨_, _, rfl, rfl, ?_⟩
          | refine MI.glc_next rfl ?_
          | refine MI.glc_end rfl ?_
          | refine MI.glf_next rfl ?_
          | refine MI.glf_end rfl ?_
          | refine ⟨Nat.le_of_ble_eq_true rfl, ?_⟩)
        refine s_pickN d6 (by omega) (by decide) (by decide) fun v hv st7 d7 f7 => ?_
        obtain ⟨c, rfl⟩ := hv3 v hv
        have hn7 := (f7.at_ _ nD nL (List.getElem?_eq_some_iff.mp hn6).1).trans hn6
        repeat (first
          | with_reducible (first | refine MI.gss_cons ?_ | refine MI.gss_nil ?_ | refine MI.gn_next ?_ | refine MI.gn_ret ?_ | refine MI.gn_brk ?_ | refine MI.gn_cont ?_ | refine MI.gk_next ?_ | refine MI.gk_cont ?_ | refine MI.gk_brk ?_ | refine MI.gk_ret ?_ | refine MI.gf_ret ?_ | refine MI.gf_next ?_ | refine MI.gs_asg ?_ | refine MI.gs_asgT ?_ | refine MI.gs_par ?_ | refine MI.gs_put ?_ | refine MI.gs_if ?_ | refine MI.gs_ret ?_ | refine MI.gs_retN ?_ | refine MI.gs_expr ?_ | refine MI.gs_pass ?_ | refine MI.gs_brk ?_ | refine MI.gs_cont ?_ | refine MI.gs_while ?_ | refine MI.gs_for ?_ | refine MI.ge_of ?_ | refine MI.ga_val ?_ | refine MI.ga_new ?_ | refine MI.gl_nil ?_ | refine MI.gl_cons ?_ | refine MI.gr_nil ?_ | refine MI.gr_cons ?_ | refine MI.gi_rng ?_ | refine MI.gi_of ?_ | refine MI.gv_name ?_ | refine MI.gv_int ?_ | refine MI.gv_bl ?_ | refine MI.gv_str ?_ | refine MI.gv_non ?_ | refine MI.gv_ty ?_ | refine MI.gv_glob ?_ | refine MI.gv_bin ?_ | refine MI.gv_neg ?_ | refine MI.gv_not ?_ | refine MI.gv_and ?_ | refine MI.gv_or ?_ | refine MI.gand_one ?_ | refine MI.gand_cons ?_ | refine MI.gor_one ?_ | refine MI.gor_cons ?_ | refine MI.gv_cmp ?_ | refine MI.gv_chain ?_ | refine MI.gv_ife ?_ | refine MI.gv_idx ?_ | refine MI.gv_slice ?_ | refine MI.go_none ?_ | refine MI.go_some ?_ | refine MI.gv_rev ?_ | refine MI.gv_call ?_ | refine MI.gv_callK ?_ | refine MI.gv_bi ?_ | refine MI.gv_comp ?_ | refine MI.gv_pop ?_ | refine MI.gv_append ?_ | refine MI.gv_dct ?_ | refine MI.gt_not ?_ | refine MI.gt_and ?_ | refine MI.gt_or ?_ | refine MI.gandt_one ?_ | refine MI.gandt_cons ?_ | refine MI.gort_one ?_ | refine MI.gort_cons ?_ | refine MI.gt_val ?_ | refine MI.gifs_nil ?_ | refine MI.gifs_cons ?_ | refine MI.gif_true ?_ | refine MI.gif_false ?_ | refine MI.gif_not ?_ | refine MI.gb_add ?_ | refine MI.gb_sub ?_ | refine MI.gm_lt ?_ | refine MI.gm_le ?_ | refine MI.gm_gt ?_ | refine MI.gm_ge ?_ | refine MI.gm_eq ?_ | refine MI.gm_ne ?_ | refine MI.gm_seq ?_ | refine MI.gtr_bl ?_ | refine MI.gtr_int ?_ | refine MI.gbi_int_int ?_ | refine MI.gbi_int_bool ?_ | refine MI.gbi_int_tup ?_ | refine MI.gbi_int_list ?_ | refine MI.gbi_int_dict ?_ | refine MI.gbi_tup_tup ?_ | refine MI.gbi_bl_tup ?_ | refine MI.gbi_bl_list ?_ | refine MI.gbi_bl_dict ?_ | refine MI.gbi_bl_bool ?_ | refine MI.gbi_len_tup ?_ | refine MI.gbi_int1 ?_ | refine MI.gbi_max ?_)
          | refine gb_tadd (Nat.le_of_ble_eq_true rfl) ?_
          | with_reducible refine MI.gv_tup ?_
          | with_reducible refine MI.gv_lst ?_
          | with_reducible refine MI.gb_mod (by first | decide | omega) ?_
          | with_reducible refine MI.gb_div (by first | decide | assumption) ?_
          | with_reducible refine MI.gb_mul (by first | decide | assumption) ?_
          | with_reducible refine MI.gb_pow (by decide) ?_
          | with_reducible refine MI.gif_dec_t (by first | assumption | omega | decide) ?_
          | with_reducible refine MI.gif_dec_f (by first | assumption | omega | decide) ?_
          | refine MI.gif_t rfl ?_
          | refine MI.gif_f rfl ?_
          | with_reducible refine MI.grg_of (by omega) (by omega) ?_
          | refine MI.gx_of rfl ?_
          | refine MI.gbi_of rfl ?_
          | refine ⟨_, rfl, ?_⟩
          | refine ⟨_, _, rfl, rfl, ?_⟩
          | refine MI.glc_next rfl ?_
          | refine MI.glc_end rfl ?_
          | refine MI.glf_next rfl ?_
          | refine MI.glf_end rfl ?_
          | refine ⟨Nat.le_of_ble_eq_true rfl, ?_⟩)
        exact fun _ => ⟨⟨(ups m (four x)).a, (ups m (four x)).b + c, (ups m (four x)).c, (ups m (four x)).d⟩, rfl, hn7, d7.mono (by omega), f5.trans (f6.trans f7)⟩
      · repeat (first
          | with_reducible (first | refine MI.gss_cons ?_ | refine MI.gss_nil ?_ | refine MI.gn_next ?_ | refine MI.gn_ret ?_ | refine MI.gn_brk ?_ | refine MI.gn_cont ?_ | refine MI.gk_next ?_ | refine MI.gk_cont ?_ | refine MI.gk_brk ?_ | refine MI.gk_ret ?_ | refine MI.gf_ret ?_ | refine MI.gf_next ?_ | refine MI.gs_asg ?_ | refine MI.gs_asgT ?_ | refine MI.gs_par ?_ | refine MI.gs_put ?_ | refine MI.gs_if ?_ | refine MI.gs_ret ?_ | refine MI.gs_retN ?_ | refine MI.gs_expr ?_ | refine MI.gs_pass ?_ | refine MI.gs_brk ?_ | refine MI.gs_cont ?_ | refine MI.gs_while ?_ | refine MI.gs_for ?_ | refine MI.ge_of ?_ | refine MI.ga_val ?_ | refine MI.ga_new ?_ | refine MI.gl_nil ?_ | refine MI.gl_cons ?_ | refine MI.gr_nil ?_ | refine MI.gr_cons ?_ | refine MI.gi_rng ?_ | refine MI.gi_of ?_ | refine MI.gv_name ?_ | refine MI.gv_int ?_ | refine MI.gv_bl ?_ | refine MI.gv_str ?_ | refine MI.gv_non ?_ | refine MI.gv_ty ?_ | refine MI.gv_glob ?_ | refine MI.gv_bin ?_ | refine MI.gv_neg ?_ | refine MI.gv_not ?_ | refine MI.gv_and ?_ | refine MI.gv_or ?_ | refine MI.gand_one ?_ | refine MI.gand_cons ?_ | refine MI.gor_one ?_ | refine MI.gor_cons ?_ | refine MI.gv_cmp ?_ | refine MI.gv_chain ?_ | refine MI.gv_ife ?_ | refine MI.gv_idx ?_ | refine MI.gv_slice ?_ | refine MI.go_none ?_ | refine MI.go_some ?_ | refine MI.gv_rev ?_ | refine MI.gv_call ?_ | refine MI.gv_callK ?_ | refine MI.gv_bi ?_ | refine MI.gv_comp ?_ | refine MI.gv_pop ?_ | refine MI.gv_append ?_ | refine MI.gv_dct ?_ | refine MI.gt_not ?_ | refine MI.gt_and ?_ | refine MI.gt_or ?_ | refine MI.gandt_one ?_ | refine MI.gandt_cons ?_ | refine MI.gort_one ?_ | refine MI.gort_cons ?_ | refine MI.gt_val ?_ | refine MI.gifs_nil ?_ | refine MI.gifs_cons ?_ | refine MI.gif_true ?_ | refine MI.gif_false ?_ | refine MI.gif_not ?_ | refine MI.gb_add ?_ | refine MI.gb_sub ?_ | refine MI.gm_lt ?_ | refine MI.gm_le ?_ | refine MI.gm_gt ?_ | refine MI.gm_ge ?_ | refine MI.gm_eq ?_ | refine MI.gm_ne ?_ | refine MI.gm_seq ?_ | refine MI.gtr_bl ?_ | refine MI.gtr_int ?_ | refine MI.gbi_int_int ?_ | refine MI.gbi_int_bool ?_ | refine MI.gbi_int_tup ?_ | refine MI.gbi_int_list ?_ | refine MI.gbi_int_dict ?_ | refine MI.gbi_tup_tup ?_ | refine MI.gbi_bl_tup ?_ | refine MI.gbi_bl_list ?_ | refine MI.gbi_bl_dict ?_ | refine MI.gbi_bl_bool ?_ | refine MI.gbi_len_tup ?_ | refine MI.gbi_int1 ?_ | refine MI.gbi_max ?_)
          | with_reducible refine MI.gv_tup ?_
          | with_reducible refine MI.gv_lst ?_
          | with_reducible refine MI.gb_mod (by first | decide | omega) ?_
          | with_reducible refine MI.gb_div (by first | decide | assumption) ?_
          | with_reducible refine MI.gb_mul (by first | decide | assumption) ?_
          | with_reducible refine MI.gb_pow (by decide) ?_
          | with_reducible refine MI.gif_dec_t (by first | assumption | omega | decide) ?_
          | with_reducible refine MI.gif_dec_f (by first | assumption | omega | decide) ?_
          | refine MI.gif_t rfl ?_
          | refine MI.gif_f rfl ?_
          | with_reducible refine MI.grg_of (by omega) (by omega) ?_
          | refine MI.gx_of rfl ?_
          | refine MI.gbi_of rfl ?_
          | refine ⟨_, rfl, ?_⟩
          | refine ⟨_, _, rfl, rfl, ?_⟩
          | refine MI.glc_next rfl ?_
          | refine MI.glc_end rfl ?_
          | refine MI.glf_next rfl ?_
          | refine MI.glf_end rfl ?_
          | refine ⟨Nat.le_of_ble_eq_true rfl, ?_⟩)
        refine s_pickN d6 (by omega) (by decide) (by decide) fun v hv st7 d7 f7 => ?_
        obtain ⟨c, rfl⟩ := hv3 v hv
        have hn7 := (f7.at_ _ nD nL (List.getElem?_eq_some_iff.mp hn6).1).trans hn6
        repeat (first
          | with_reducible (first | refine MI.gss_cons ?_ | refine MI.gss_nil ?_ | refine MI.gn_next ?_ | refine MI.gn_ret ?_ | refine MI.gn_brk ?_ | refine MI.gn_cont ?_ | refine MI.gk_next ?_ | refine MI.gk_cont ?_ | refine MI.gk_brk ?_ | refine MI.gk_ret ?_ | refine MI.gf_ret ?_ | refine MI.gf_next ?_ | refine MI.gs_asg ?_ | refine MI.gs_asgT ?_ | refine MI.gs_par ?_ | refine MI.gs_put ?_ | refine MI.gs_if ?_ | refine MI.gs_ret ?_ | refine MI.gs_retN ?_ | refine MI.gs_expr ?_ | refine MI.gs_pass ?_ | refine MI.gs_brk ?_ | refine MI.gs_cont ?_ | refine MI.gs_while ?_ | refine MI.gs_for ?_ | refine MI.ge_of ?_ | refine MI.ga_val ?_ | refine MI.ga_new ?_ | refine MI.gl_nil ?_ | refine MI.gl_cons ?_ | refine MI.gr_nil ?_ | refine MI.gr_cons ?_ | refine MI.gi_rng ?_ | refine MI.gi_of ?_ | refine MI.gv_name ?_ | refine MI.gv_int ?_ | refine MI.gv_bl ?_ | refine MI.gv_str ?_ | refine MI.gv_non ?_ | refine MI.gv_ty ?_ | refine MI.gv_glob ?_ | refine MI.gv_bin ?_ | refine MI.gv_neg ?_ | refine MI.gv_not ?_ | refine MI.gv_and ?_ | refine MI.gv_or ?_ | refine MI.gand_one ?_ | refine MI.gand_cons ?_ | refine MI.gor_one ?_ | refine MI.gor_cons ?_ | refine MI.gv_cmp ?_ | refine MI.gv_chain ?_ | refine MI.gv_ife ?_ | refine MI.gv_idx ?_ | refine MI.gv_slice ?_ | refine MI.go_none ?_ | refine MI.go_some ?_ | refine MI.gv_rev ?_ | refine MI.gv_call ?_ | refine MI.gv_callK ?_ | refine MI.gv_bi ?_ | refine MI.gv_comp ?_ | refine MI.gv_pop ?_ | refine MI.gv_append ?_ | refine MI.gv_dct ?_ | refine MI.gt_not ?_ | refine MI.gt_and ?_ | refine MI.gt_or ?_ | refine MI.gandt_one ?_ | refine MI.gandt_cons ?_ | refine MI.gort_one ?_ | refine MI.gort_cons ?_ | refine MI.gt_val ?_ | refine MI.gifs_nil ?_ | refine MI.gifs_cons ?_ | refine MI.gif_true ?_ | refine MI.gif_false ?_ | refine MI.gif_not ?_ | refine MI.gb_add ?_ | refine MI.gb_sub ?_ | refine MI.gm_lt ?_ | refine MI.gm_le ?_ | refine MI.gm_gt ?_ | refine MI.gm_ge ?_ | refine MI.gm_eq ?_ | refine MI.gm_ne ?_ | refine MI.gm_seq ?_ | refine MI.gtr_bl ?_ | refine MI.gtr_int ?_ | refine MI.gbi_int_int ?_ | refine MI.gbi_int_bool ?_ | refine MI.gbi_int_tup ?_ | refine MI.gbi_int_list ?_ | refine MI.gbi_int_dict ?_ | refine MI.gbi_tup_tup ?_ | refine MI.gbi_bl_tup ?_ | refine MI.gbi_bl_list ?_ | refine MI.gbi_bl_dict ?_ | refine MI.gbi_bl_bool ?_ | refine MI.gbi_len_tup ?_ | refine MI.gbi_int1 ?_ | refine MI.gbi_max ?_)
          | refine gb_tadd (Nat.le_of_ble_eq_true rfl) ?_
          | with_reducible refine MI.gv_tup ?_
          | with_reducible refine MI.gv_lst ?_
          | with_reducible refine MI.gb_mod (by first | decide | omega) ?_
          | with_reducible refine MI.gb_div (by first | decide | assumption) ?_
          | with_reducible refine MI.gb_mul (by first | decide | assumption) ?_
          | with_reducible refine MI.gb_pow (by decide) ?_
          | with_reducible refine MI.gif_dec_t (by first | assumption | omega | decide) ?_
          | with_reducible refine MI.gif_dec_f (by first | assumption | omega | decide) ?_
          | refine MI.gif_t rfl ?_
          | refine MI.gif_f rfl ?_
          | with_reducible refine MI.grg_of (by omega) (by omega) ?_
          | refine MI.gx_of rfl ?_
          | refine MI.gbi_of rfl ?_
          | refine ⟨_, rfl, ?_⟩
          | refine ⟨_, _, rfl, rfl, ?_⟩
          | refine MI.glc_next rfl ?_
          | refine MI.glc_end rfl ?_
          | refine MI.glf_next rfl ?_
          | refine MI.glf_end rfl ?_
          | refine ⟨Nat.le_of_ble_eq_true rfl, ?_⟩)
        exact fun _ => ⟨⟨(ups m (four x)).a, (ups m (four x)).b, (ups m (four x)).c + c, (ups m (four x)).d⟩, rfl, hn7, d7.mono (by omega), f5.trans (f6.trans f7)⟩
      · repeat (first
          | with_reducible (first | refine MI.gss_cons ?_ | refine MI.gss_nil ?_ | refine MI.gn_next ?_ | refine MI.gn_ret ?_ | refine MI.gn_brk ?_ | refine MI.gn_cont ?_ | refine MI.gk_next ?_ | refine MI.gk_cont ?_ | refine MI.gk_brk ?_ | refine MI.gk_ret ?_ | refine MI.gf_ret ?_ | refine MI.gf_next ?_ | refine MI.gs_asg ?_ | refine MI.gs_asgT ?_ | refine MI.gs_par ?_ | refine MI.gs_put ?_ | refine MI.gs_if ?_ | refine MI.gs_ret ?_ | refine MI.gs_retN ?_ | refine MI.gs_expr ?_ | refine MI.gs_pass ?_ | refine MI.gs_brk ?_ | refine MI.gs_cont ?_ | refine MI.gs_while ?_ | refine MI.gs_for ?_ | refine MI.ge_of ?_ | refine MI.ga_val ?_ | refine MI.ga_new ?_ | refine MI.gl_nil ?_ | refine MI.gl_cons ?_ | refine MI.gr_nil ?_ | refine MI.gr_cons ?_ | refine MI.gi_rng ?_ | refine MI.gi_of ?_ | refine MI.gv_name ?_ | refine MI.gv_int ?_ | refine MI.gv_bl ?_ | refine MI.gv_str ?_ | refine MI.gv_non ?_ | refine MI.gv_ty ?_ | refine MI.gv_glob ?_ | refine MI.gv_bin ?_ | refine MI.gv_neg ?_ | refine MI.gv_not ?_ | refine MI.gv_and ?_ | refine MI.gv_or ?_ | refine MI.gand_one ?_ | refine MI.gand_cons ?_ | refine MI.gor_one ?_ | refine MI.gor_cons ?_ | refine MI.gv_cmp ?_ | refine MI.gv_chain ?_ | refine MI.gv_ife ?_ | refine MI.gv_idx ?_ | refine MI.gv_slice ?_ | refine MI.go_none ?_ | refine MI.go_some ?_ | refine MI.gv_rev ?_ | refine MI.gv_call ?_ | refine MI.gv_callK ?_ | refine MI.gv_bi ?_ | refine MI.gv_comp ?_ | refine MI.gv_pop ?_ | refine MI.gv_append ?_ | refine MI.gv_dct ?_ | refine MI.gt_not ?_ | refine MI.gt_and ?_ | refine MI.gt_or ?_ | refine MI.gandt_one ?_ | refine MI.gandt_cons ?_ | refine MI.gort_one ?_ | refine MI.gort_cons ?_ | refine MI.gt_val ?_ | refine MI.gifs_nil ?_ | refine MI.gifs_cons ?_ | refine MI.gif_true ?_ | refine MI.gif_false ?_ | refine MI.gif_not ?_ | refine MI.gb_add ?_ | refine MI.gb_sub ?_ | refine MI.gm_lt ?_ | refine MI.gm_le ?_ | refine MI.gm_gt ?_ | refine MI.gm_ge ?_ | refine MI.gm_eq ?_ | refine MI.gm_ne ?_ | refine MI.gm_seq ?_ | refine MI.gtr_bl ?_ | refine MI.gtr_int ?_ | refine MI.gbi_int_int ?_ | refine MI.gbi_int_bool ?_ | refine MI.gbi_int_tup ?_ | refine MI.gbi_int_list ?_ | refine MI.gbi_int_dict ?_ | refine MI.gbi_tup_tup ?_ | refine MI.gbi_bl_tup ?_ | refine MI.gbi_bl_list ?_ | refine MI.gbi_bl_dict ?_ | refine MI.gbi_bl_bool ?_ | refine MI.gbi_len_tup ?_ | refine MI.gbi_int1 ?_ | refine MI.gbi_max ?_)
          | with_reducible refine MI.gv_tup ?_
          | with_reducible refine MI.gv_lst ?_
          | with_reducible refine MI.gb_mod (by first | decide | omega) ?_
          | with_reducible refine MI.gb_div (by first | decide | assumption) ?_
          | with_reducible refine MI.gb_mul (by first | decide | assumption) ?_
          | with_reducible refine MI.gb_pow (by decide) ?_
          | with_reducible refine MI.gif_dec_t (by first | assumption | omega | decide) ?_
          | with_reducible refine MI.gif_dec_f (by first | assumption | omega | decide) ?_
          | refine MI.gif_t rfl ?_
          | refine MI.gif_f rfl ?_
          | with_reducible refine MI.grg_of (by omega) (by omega) ?_
          | refine MI.gx_of rfl ?_
          | refine MI.gbi_of rfl ?_
          | refine ⟨_, rfl, ?_⟩
          | refine ⟨_, _, rfl, rfl, ?_⟩
          | refine MI.glc_next rfl ?_
          | refine MI.glc_end rfl ?_
          | refine MI.glf_next rfl ?_
          | refine MI.glf_end rfl ?_
          | refine ⟨Nat.le_of_ble_eq_true rfl, ?_⟩)
        refine s_pickN d6 (by omega) (by decide) (by decide) fun v hv st7 d7 f7 => ?_
        obtain ⟨c, rfl⟩ := hv3 v hv
        have hn7 := (f7.at_ _ nD nL (List.getElem?_eq_some_iff.mp hn6).1).trans hn6
        repeat (first
          | with_reducible (first | refine MI.gss_cons ?_ | refine MI.gss_nil ?_ | refine MI.gn_next ?_ | refine MI.gn_ret ?_ | refine MI.gn_brk ?_ | refine MI.gn_cont ?_ | refine MI.gk_next ?_ | refine MI.gk_cont ?_ | refine MI.gk_brk ?_ | refine MI.gk_ret ?_ | refine MI.gf_ret ?_ | refine MI.gf_next ?_ | refine MI.gs_asg ?_ | refine MI.gs_asgT ?_ | refine MI.gs_par ?_ | refine MI.gs_put ?_ | refine MI.gs_if ?_ | refine MI.gs_ret ?_ | refine MI.gs_retN ?_ | refine MI.gs_expr ?_ | refine MI.gs_pass ?_ | refine MI.gs_brk ?_ | refine MI.gs_cont ?_ | refine MI.gs_while ?_ | refine MI.gs_for ?_ | refine MI.ge_of ?_ | refine MI.ga_val ?_ | refine MI.ga_new ?_ | refine MI.gl_nil ?_ | refine MI.gl_cons ?_ | refine MI.gr_nil ?_ | refine MI.gr_cons ?_ | refine MI.gi_rng ?_ | refine MI.gi_of ?_ | refine MI.gv_name ?_ | refine MI.gv_int ?_ | refine MI.gv_bl ?_ | refine MI.gv_str ?_ | refine MI.gv_non ?_ | refine MI.gv_ty ?_ | refine MI.gv_glob ?_ | refine MI.gv_bin ?_ | refine MI.gv_neg ?_ | refine MI.gv_not ?_ | refine MI.gv_and ?_ | refine MI.gv_or ?_ | refine MI.gand_one ?_ | refine MI.gand_cons ?_ | refine MI.gor_one ?_ | refine MI.gor_cons ?_ | refine MI.gv_cmp ?_ | refine MI.gv_chain ?_ | refine MI.gv_ife ?_ | refine MI.gv_idx ?_ | refine MI.gv_slice ?_ | refine MI.go_none ?_ | refine MI.go_some ?_ | refine MI.gv_rev ?_ | refine MI.gv_call ?_ | refine MI.gv_callK ?_ | refine MI.gv_bi ?_ | refine MI.gv_comp ?_ | refine MI.gv_pop ?_ | refine MI.gv_append ?_ | refine MI.gv_dct ?_ | refine MI.gt_not ?_ | refine MI.gt_and ?_ | refine MI.gt_or ?_ | refine MI.gandt_one ?_ | refine MI.gandt_cons ?_ | refine MI.gort_one ?_ | refine MI.gort_cons ?_ | refine MI.gt_val ?_ | refine MI.gifs_nil ?_ | refine MI.gifs_cons ?_ | refine MI.gif_true ?_ | refine MI.gif_false ?_ | refine MI.gif_not ?_ | refine MI.gb_add ?_ | refine MI.gb_sub ?_ | refine MI.gm_lt ?_ | refine MI.gm_le ?_ | refine MI.gm_gt ?_ | refine MI.gm_ge ?_ | refine MI.gm_eq ?_ | refine MI.gm_ne ?_ | refine MI.gm_seq ?_ | refine MI.gtr_bl ?_ | refine MI.gtr_int ?_ | refine MI.gbi_int_int ?_ | refine MI.gbi_int_bool ?_ | refine MI.gbi_int_tup ?_ | refine MI.gbi_int_list ?_ | refine MI.gbi_int_dict ?_ | refine MI.gbi_tup_tup ?_ | refine MI.gbi_bl_tup ?_ | refine MI.gbi_bl_list ?_ | refine MI.gbi_bl_dict ?_ | refine MI.gbi_bl_bool ?_ | refine MI.gbi_len_tup ?_ | refine MI.gbi_int1 ?_ | refine MI.gbi_max ?_)
          | refine gb_tadd (Nat.le_of_ble_eq_true rfl) ?_
          | with_reducible refine MI.gv_tup ?_
          | with_reducible refine MI.gv_lst ?_
          | with_reducible refine MI.gb_mod (by first | decide | omega) ?_
          | with_reducible refine MI.gb_div (by first | decide | assumption) ?_
          | with_reducible refine MI.gb_mul (by first | decide | assumption) ?_
          | with_reducible refine MI.gb_pow (by decide) ?_
          | with_reducible refine MI.gif_dec_t (by first | assumption | omega | decide) ?_
          | with_reducible refine MI.gif_dec_f (by first | assumption | omega | decide) ?_
          | refine MI.gif_t rfl ?_
          | refine MI.gif_f rfl ?_
          | with_reducible refine MI.grg_of (by omega) (by omega) ?_
          | refine MI.gx_of rfl ?_
          | refine MI.gbi_of rfl ?_
          | refine ⟨_, rfl, ?_⟩
          | refine ⟨_, _, rfl, rfl, ?_⟩
          | refine MI.glc_next rfl ?_
          | refine MI.glc_end rfl ?_
          | refine MI.glf_next rfl ?_
          | refine MI.glf_end rfl ?_
          | refine ⟨Nat.le_of_ble_eq_true rfl, ?_⟩)
        exact fun _ => ⟨⟨(ups m (four x)).a, (ups m (four x)).b, (ups m (four x)).c, (ups m (four x)).d + c⟩, rfl, hn7, d7.mono (by omega), f5.trans (f6.trans f7)⟩
    · rintro o s7 h0
      obtain ⟨w, rfl, hn7, d7, f7⟩ := h0 trivial
      refine gn_next ?_
      repeat (first
        | with_reducible (first | refine MI.gss_cons ?_ | refine MI.gss_nil ?_ | refine MI.gn_next ?_ | refine MI.gn_ret ?_ | refine MI.gn_brk ?_ | refine MI.gn_cont ?_ | refine MI.gk_next ?_ | refine MI.gk_cont ?_ | refine MI.gk_brk ?_ | refine MI.gk_ret ?_ | refine MI.gf_ret ?_ | refine MI.gf_next ?_ | refine MI.gs_asg ?_ | refine MI.gs_asgT ?_ | refine MI.gs_par ?_ | refine MI.gs_put ?_ | refine MI.gs_if ?_ | refine MI.gs_ret ?_ | refine MI.gs_retN ?_ | refine MI.gs_expr ?_ | refine MI.gs_pass ?_ | refine MI.gs_brk ?_ | refine MI.gs_cont ?_ | refine MI.gs_while ?_ | refine MI.gs_for ?_ | refine MI.ge_of ?_ | refine MI.ga_val ?_ | refine MI.ga_new ?_ | refine MI.gl_nil ?_ | refine MI.gl_cons ?_ | refine MI.gr_nil ?_ | refine MI.gr_cons ?_ | refine MI.gi_rng ?_ | refine MI.gi_of ?_ | refine MI.gv_name ?_ | refine MI.gv_int ?_ | refine MI.gv_bl ?_ | refine MI.gv_str ?_ | refine MI.gv_non ?_ | refine MI.gv_ty ?_ | refine MI.gv_glob ?_ | refine MI.gv_bin ?_ | refine MI.gv_neg ?_ | refine MI.gv_not ?_ | refine MI.gv_and ?_ | refine MI.gv_or ?_ | refine MI.gand_one ?_ | refine MI.gand_cons ?_ | refine MI.gor_one ?_ | refine MI.gor_cons ?_ | refine MI.gv_cmp ?_ | refine MI.gv_chain ?_ | refine MI.gv_ife ?_ | refine MI.gv_idx ?_ | refine MI.gv_slice ?_ | refine MI.go_none ?_ | refine MI.go_some ?_ | refine MI.gv_rev ?_ | refine MI.gv_call ?_ | refine MI.gv_callK ?_ | refine MI.gv_bi ?_ | refine MI.gv_comp ?_ | refine MI.gv_pop ?_ | refine MI.gv_append ?_ | refine MI.gv_dct ?_ | refine MI.gt_not ?_ | refine MI.gt_and ?_ | refine MI.gt_or ?_ | refine MI.gandt_one ?_ | refine MI.gandt_cons ?_ | refine MI.gort_one ?_ | refine MI.gort_cons ?_ | refine MI.gt_val ?_ | refine MI.gifs_nil ?_ | refine MI.gifs_cons ?_ | refine MI.gif_true ?_ | refine MI.gif_false ?_ | refine MI.gif_not ?_ | refine MI.gb_add ?_ | refine MI.gb_sub ?_ | refine MI.gm_lt ?_ | refine MI.gm_le ?_ | refine MI.gm_gt ?_ | refine MI.gm_ge ?_ | refine MI.gm_eq ?_ | refine MI.gm_ne ?_ | refine MI.gm_seq ?_ | refine MI.gtr_bl ?_ | refine MI.gtr_int ?_ | refine MI.gbi_int_int ?_ | refine MI.gbi_int_bool ?_ | refine MI.gbi_int_tup ?_ | refine MI.gbi_int_list ?_ | refine MI.gbi_int_dict ?_ | refine MI.gbi_tup_tup ?_ | refine MI.gbi_bl_tup ?_ | refine MI.gbi_bl_list ?_ | refine MI.gbi_bl_dict ?_ | refine MI.gbi_bl_bool ?_ | refine MI.gbi_len_tup ?_ | refine MI.gbi_int1 ?_ | refine MI.gbi_max ?_)
        | refine p_lowest (k := x.k + m) (by omega) ?_
        | with_reducible refine MI.gv_tup ?_
        | with_reducible refine MI.gv_lst ?_
        | with_reducible refine MI.gb_mod (by first | decide | omega) ?_
        | with_reducible refine MI.gb_div (by first | decide | assumption) ?_
        | with_reducible refine MI.gb_mul (by first | decide | assumption) ?_
        | with_reducible refine MI.gb_pow (by decide) ?_
        | with_reducible refine MI.gif_dec_t (by first | assumption | omega | decide) ?_
        | with_reducible refine MI.gif_dec_f (by first | assumption | omega | decide) ?_
        | refine MI.gif_t rfl ?_
        | refine MI.gif_f rfl ?_
        | with_reducible refine MI.grg_of (by omega) (by omega) ?_
        | refine MI.gx_of rfl ?_
        | refine MI.gbi_of rfl ?_
        | refine ⟨_, rfl, ?_⟩
        | refine ⟨_, _, rfl, rfl, ?_⟩
        | refine MI.glc_next rfl ?_
        | refine MI.glc_end rfl ?_
        | refine MI.glf_next rfl ?_
        | refine MI.glf_end rfl ?_
        | refine ⟨Nat.le_of_ble_eq_true rfl, ?_⟩)
      refine ⟨n, _, _, rfl, hn7, hn7, Nat.le_of_ble_eq_true rfl, ?_⟩
      have hn8 := at_self (c' := .lst ([rv x] ++ [rv x] ++ [rv (lowQ (x.k + m) w.a w.b w.c w.d)])) hn7
      have d8 := deck_other (c := .lst ([rv x] ++ [rv x] ++ [rv (lowQ (x.k + m) w.a w.b w.c w.d)])) d7 nD nL
      have f8 := fr_other (c := .lst ([rv x] ++ [rv x] ++ [rv (lowQ (x.k + m) w.a w.b w.c w.d)])) f7 hnn
      generalize s7.set n (.lst ([rv x] ++ [rv x] ++ [rv (lowQ (x.k + m) w.a w.b w.c w.d)])) = st8 at *
      repeat (first
        | with_reducible (first | refine MI.gss_cons ?_ | refine MI.gss_nil ?_ | refine MI.gn_next ?_ | refine MI.gn_ret ?_ | refine MI.gn_brk ?_ | refine MI.gn_cont ?_ | refine MI.gk_next ?_ | refine MI.gk_cont ?_ | refine MI.gk_brk ?_ | refine MI.gk_ret ?_ | refine MI.gf_ret ?_ | refine MI.gf_next ?_ | refine MI.gs_asg ?_ | refine MI.gs_asgT ?_ | refine MI.gs_par ?_ | refine MI.gs_put ?_ | refine MI.gs_if ?_ | refine MI.gs_ret ?_ | refine MI.gs_retN ?_ | refine MI.gs_expr ?_ | refine MI.gs_pass ?_ | refine MI.gs_brk ?_ | refine MI.gs_cont ?_ | refine MI.gs_while ?_ | refine MI.gs_for ?_ | refine MI.ge_of ?_ | refine MI.ga_val ?_ | refine MI.ga_new ?_ | refine MI.gl_nil ?_ | refine MI.gl_cons ?_ | refine MI.gr_nil ?_ | refine MI.gr_cons ?_ | refine MI.gi_rng ?_ | refine MI.gi_of ?_ | refine MI.gv_name ?_ | refine MI.gv_int ?_ | refine MI.gv_bl ?_ | refine MI.gv_str ?_ | refine MI.gv_non ?_ | refine MI.gv_ty ?_ | refine MI.gv_glob ?_ | refine MI.gv_bin ?_ | refine MI.gv_neg ?_ | refine MI.gv_not ?_ | refine MI.gv_and ?_ | refine MI.gv_or ?_ | refine MI.gand_one ?_ | refine MI.gand_cons ?_ | refine MI.gor_one ?_ | refine MI.gor_cons ?_ | refine MI.gv_cmp ?_ | refine MI.gv_chain ?_ | refine MI.gv_ife ?_ | refine MI.gv_idx ?_ | refine MI.gv_slice ?_ | refine MI.go_none ?_ | refine MI.go_some ?_ | refine MI.gv_rev ?_ | refine MI.gv_call ?_ | refine MI.gv_callK ?_ | refine MI.gv_bi ?_ | refine MI.gv_comp ?_ | refine MI.gv_pop ?_ | refine MI.gv_append ?_ | refine MI.gv_dct ?_ | refine MI.gt_not ?_ | refine MI.gt_and ?_ | refine MI.gt_or ?_ | refine MI.gandt_one ?_ | refine MI.gandt_cons ?_ | refine MI.gort_one ?_ | refine MI.gort_cons ?_ | refine MI.gt_val ?_ | refine MI.gifs_nil ?_ | refine MI.gifs_cons ?_ | refine MI.gif_true ?_ | refine MI.gif_false ?_ | refine MI.gif_not ?_ | refine MI.gb_add ?_ | refine MI.gb_sub ?_ | refine MI.gm_lt ?_ | refine MI.gm_le ?_ | refine MI.gm_gt ?_ | refine MI.gm_ge ?_ | refine MI.gm_eq ?_ | refine MI.gm_ne ?_ | refine MI.gm_seq ?_ | refine MI.gtr_bl ?_ | refine MI.gtr_int ?_ | refine MI.gbi_int_int ?_ | refine MI.gbi_int_bool ?_ | refine MI.gbi_int_tup ?_ | refine MI.gbi_int_list ?_ | refine MI.gbi_int_dict ?_ | refine MI.gbi_tup_tup ?_ | refine MI.gbi_bl_tup ?_ | refine MI.gbi_bl_list ?_ | refine MI.gbi_bl_dict ?_ | refine MI.gbi_bl_bool ?_ | refine MI.gbi_len_tup ?_ | refine MI.gbi_int1 ?_ | refine MI.gbi_max ?_)
        | refine gbi_tuple hn8 ?_
        | refine p_low24E (k := x.k + m) (by omega) ?_
        | with_reducible refine MI.gv_tup ?_
        | with_reducible refine MI.gv_lst ?_
        | with_reducible refine MI.gb_mod (by first | decide | omega) ?_
        | with_reducible refine MI.gb_div (by first | decide | assumption) ?_
        | with_reducible refine MI.gb_mul (by first | decide | assumption) ?_
        | with_reducible refine MI.gb_pow (by decide) ?_
        | with_reducible refine MI.gif_dec_t (by first | assumption | omega | decide) ?_
        | with_reducible refine MI.gif_dec_f (by first | assumption | omega | decide) ?_
        | refine MI.gif_t rfl ?_
        | refine MI.gif_f rfl ?_
        | with_reducible refine MI.grg_of (by omega) (by omega) ?_
        | refine MI.gx_of rfl ?_
        | refine MI.gbi_of rfl ?_
        | refine ⟨_, rfl, ?_⟩
        | refine ⟨_, _, rfl, rfl, ?_⟩
        | refine MI.glc_next rfl ?_
        | refine MI.glc_end rfl ?_
        | refine MI.glf_next rfl ?_
        | refine MI.glf_end rfl ?_
        | refine ⟨Nat.le_of_ble_eq_true rfl, ?_⟩)
      show GC G _ 22 [.tup [rv x, rv x, rv (lowQ (x.k + m) w.a w.b w.c w.d)], .tup [rv x, rv x, rv (lowQ (x.k + m) w.a w.b w.c w.d)]] _ _
      refine s_same 2 (d := d + 2) (pl_list (by show 3 ≤ 1000; decide) fun v hv => ?_) ?_
      · rcases mem3 hv with rfl | rfl | rfl <;> exact pl_rv _
      repeat (first
        | with_reducible (first | refine MI.gss_cons ?_ | refine MI.gss_nil ?_ | refine MI.gn_next ?_ | refine MI.gn_ret ?_ | refine MI.gn_brk ?_ | refine MI.gn_cont ?_ | refine MI.gk_next ?_ | refine MI.gk_cont ?_ | refine MI.gk_brk ?_ | refine MI.gk_ret ?_ | refine MI.gf_ret ?_ | refine MI.gf_next ?_ | refine MI.gs_asg ?_ | refine MI.gs_asgT ?_ | refine MI.gs_par ?_ | refine MI.gs_put ?_ | refine MI.gs_if ?_ | refine MI.gs_ret ?_ | refine MI.gs_retN ?_ | refine MI.gs_expr ?_ | refine MI.gs_pass ?_ | refine MI.gs_brk ?_ | refine MI.gs_cont ?_ | refine MI.gs_while ?_ | refine MI.gs_for ?_ | refine MI.ge_of ?_ | refine MI.ga_val ?_ | refine MI.ga_new ?_ | refine MI.gl_nil ?_ | refine MI.gl_cons ?_ | refine MI.gr_nil ?_ | refine MI.gr_cons ?_ | refine MI.gi_rng ?_ | refine MI.gi_of ?_ | refine MI.gv_name ?_ | refine MI.gv_int ?_ | refine MI.gv_bl ?_ | refine MI.gv_str ?_ | refine MI.gv_non ?_ | refine MI.gv_ty ?_ | refine MI.gv_glob ?_ | refine MI.gv_bin ?_ | refine MI.gv_neg ?_ | refine MI.gv_not ?_ | refine MI.gv_and ?_ | refine MI.gv_or ?_ | refine MI.gand_one ?_ | refine MI.gand_cons ?_ | refine MI.gor_one ?_ | refine MI.gor_cons ?_ | refine MI.gv_cmp ?_ | refine MI.gv_chain ?_ | refine MI.gv_ife ?_ | refine MI.gv_idx ?_ | refine MI.gv_slice ?_ | refine MI.go_none ?_ | refine MI.go_some ?_ | refine MI.gv_rev ?_ | refine MI.gv_call ?_ | refine MI.gv_callK ?_ | refine MI.gv_bi ?_ | refine MI.gv_comp ?_ | refine MI.gv_pop ?_ | refine MI.gv_append ?_ | refine MI.gv_dct ?_ | refine MI.gt_not ?_ | refine MI.gt_and ?_ | refine MI.gt_or ?_ | refine MI.gandt_one ?_ | refine MI.gandt_cons ?_ | refine MI.gort_one ?_ | refine MI.gort_cons ?_ | refine MI.gt_val ?_ | refine MI.gifs_nil ?_ | refine MI.gifs_cons ?_ | refine MI.gif_true ?_ | refine MI.gif_false ?_ | refine MI.gif_not ?_ | refine MI.gb_add ?_ | refine MI.gb_sub ?_ | refine MI.gm_lt ?_ | refine MI.gm_le ?_ | refine MI.gm_gt ?_ | refine MI.gm_ge ?_ | refine MI.gm_eq ?_ | refine MI.gm_ne ?_ | refine MI.gm_seq ?_ | refine MI.gtr_bl ?_ | refine MI.gtr_int ?_ | refine MI.gbi_int_int ?_ | refine MI.gbi_int_bool ?_ | refine MI.gbi_int_tup ?_ | refine MI.gbi_int_list ?_ | refine MI.gbi_int_dict ?_ | refine MI.gbi_tup_tup ?_ | refine MI.gbi_bl_tup ?_ | refine MI.gbi_bl_list ?_ | refine MI.gbi_bl_dict ?_ | refine MI.gbi_bl_bool ?_ | refine MI.gbi_len_tup ?_ | refine MI.gbi_int1 ?_ | refine MI.gbi_max ?_)
        | with_reducible refine MI.gv_tup ?_
        | with_reducible refine MI.gv_lst ?_
        | with_reducible refine MI.gb_mod (by first | decide | omega) ?_
        | with_reducible refine MI.gb_div (by first | decide | assumption) ?_
        | with_reducible refine MI.gb_mul (by first | decide | assumption) ?_
        | with_reducible refine MI.gb_pow (by decide) ?_
        | with_reducible refine MI.gif_dec_t (by first | assumption | omega | decide) ?_
        | with_reducible refine MI.gif_dec_f (by first | assumption | omega | decide) ?_
        | refine MI.gif_t rfl ?_
        | refine MI.gif_f rfl ?_
        | with_reducible refine MI.grg_of (by omega) (by omega) ?_
        | refine MI.gx_of rfl ?_
        | refine MI.gbi_of rfl ?_
        | refine ⟨_, rfl, ?_⟩
        | refine ⟨_, _, rfl, rfl, ?_⟩
        | refine MI.glc_next rfl ?_
        | refine MI.glc_end rfl ?_
        | refine MI.glf_next rfl ?_
        | refine MI.glf_end rfl ?_
        | refine ⟨Nat.le_of_ble_eq_true rfl, ?_⟩)
      exact q _ (d8.mono (by omega)) f8
end
end K01
end
section
set_option Elab.async false
set_option linter.all false
set_option maxRecDepth 100000
set_option maxHeartbeats 4000000
set_option exponentiation.threshold 3000
namespace K01
open PySem MI
section
variable {d : Nat} {st : Store} {Q : PV → Store → Prop}
theorem l_law {ns : List Int} (hl : ns.length ≤ 63) : GC G (d + 9) 35 [.frz (ns.map .int)] [] fun v _ => v = .bl true := by
  refine c_law ?_
  repeat (first
    | with_reducible (first | refine MI.gss_cons ?_ | refine MI.gss_nil ?_ | refine MI.gn_next ?_ | refine MI.gn_ret ?_ | refine MI.gn_brk ?_ | refine MI.gn_cont ?_ | refine MI.gk_next ?_ | refine MI.gk_cont ?_ | refine MI.gk_brk ?_ | refine MI.gk_ret ?_ | refine MI.gf_ret ?_ | refine MI.gf_next ?_ | refine MI.gs_asg ?_ | refine MI.gs_asgT ?_ | refine MI.gs_par ?_ | refine MI.gs_put ?_ | refine MI.gs_if ?_ | refine MI.gs_ret ?_ | refine MI.gs_retN ?_ | refine MI.gs_expr ?_ | refine MI.gs_pass ?_ | refine MI.gs_brk ?_ | refine MI.gs_cont ?_ | refine MI.gs_while ?_ | refine MI.gs_for ?_ | refine MI.ge_of ?_ | refine MI.ga_val ?_ | refine MI.ga_new ?_ | refine MI.gl_nil ?_ | refine MI.gl_cons ?_ | refine MI.gr_nil ?_ | refine MI.gr_cons ?_ | refine MI.gi_rng ?_ | refine MI.gi_of ?_ | refine MI.gv_name ?_ | refine MI.gv_int ?_ | refine MI.gv_bl ?_ | refine MI.gv_str ?_ | refine MI.gv_non ?_ | refine MI.gv_ty ?_ | refine MI.gv_glob ?_ | refine MI.gv_bin ?_ | refine MI.gv_neg ?_ | refine MI.gv_not ?_ | refine MI.gv_and ?_ | refine MI.gv_or ?_ | refine MI.gand_one ?_ | refine MI.gand_cons ?_ | refine MI.gor_one ?_ | refine MI.gor_cons ?_ | refine MI.gv_cmp ?_ | refine MI.gv_chain ?_ | refine MI.gv_ife ?_ | refine MI.gv_idx ?_ | refine MI.gv_slice ?_ | refine MI.go_none ?_ | refine MI.go_some ?_ | refine MI.gv_rev ?_ | refine MI.gv_call ?_ | refine MI.gv_callK ?_ | refine MI.gv_bi ?_ | refine MI.gv_comp ?_ | refine MI.gv_pop ?_ | refine MI.gv_append ?_ | refine MI.gv_dct ?_ | refine MI.gt_not ?_ | refine MI.gt_and ?_ | refine MI.gt_or ?_ | refine MI.gandt_one ?_ | refine MI.gandt_cons ?_ | refine MI.gort_one ?_ | refine MI.gort_cons ?_ | refine MI.gt_val ?_ | refine MI.gifs_nil ?_ | refine MI.gifs_cons ?_ | refine MI.gif_true ?_ | refine MI.gif_false ?_ | refine MI.gif_not ?_ | refine MI.gb_add ?_ | refine MI.gb_sub ?_ | refine MI.gm_lt ?_ | refine MI.gm_le ?_ | refine MI.gm_gt ?_ | refine MI.gm_ge ?_ | refine MI.gm_eq ?_ | refine MI.gm_ne ?_ | refine MI.gm_seq ?_ | refine MI.gtr_bl ?_ | refine MI.gtr_int ?_ | refine MI.gbi_int_int ?_ | refine MI.gbi_int_bool ?_ | refine MI.gbi_int_tup ?_ | refine MI.gbi_int_list ?_ | refine MI.gbi_int_dict ?_ | refine MI.gbi_tup_tup ?_ | refine MI.gbi_bl_tup ?_ | refine MI.gbi_bl_list ?_ | refine MI.gbi_bl_dict ?_ | refine MI.gbi_bl_bool ?_ | refine MI.gbi_len_tup ?_ | refine MI.gbi_int1 ?_ | refine MI.gbi_max ?_)
    | with_reducible refine MI.gv_tup ?_
    | with_reducible refine MI.gv_lst ?_
    | with_reducible refine MI.gb_mod (by first | decide | omega) ?_
    | with_reducible refine MI.gb_div (by first | decide | assumption) ?_
    | with_reducible refine MI.gb_mul (by first | decide | assumption) ?_
    | with_reducible refine MI.gb_pow (by decide) ?_
    | with_reducible refine MI.gif_dec_t (by first | assumption | omega | decide) ?_
    | with_reducible refine MI.gif_dec_f (by first | assumption | omega | decide) ?_
    | refine MI.gif_t rfl ?_
    | refine MI.gif_f rfl ?_
    | with_reducible refine MI.grg_of (by omega) (by omega) ?_
    | refine MI.gx_of rfl ?_
    | refine MI.gbi_of rfl ?_
    | refine ⟨_, rfl, ?_⟩
    | refine ⟨_, _, rfl, rfl, ?_⟩
    | refine MI.glc_next rfl ?_
    | refine MI.glc_end rfl ?_
    | refine MI.glf_next rfl ?_
    | refine MI.glf_end rfl ?_
    | refine ⟨Nat.le_of_ble_eq_true rfl, ?_⟩)
  refine s_deck hl fun st1 d1 => ?_
  repeat (first
    | with_reducible (first | refine MI.gss_cons ?_ | refine MI.gss_nil ?_ | refine MI.gn_next ?_ | refine MI.gn_ret ?_ | refine MI.gn_brk ?_ | refine MI.gn_cont ?_ | refine MI.gk_next ?_ | refine MI.gk_cont ?_ | refine MI.gk_brk ?_ | refine MI.gk_ret ?_ | refine MI.gf_ret ?_ | refine MI.gf_next ?_ | refine MI.gs_asg ?_ | refine MI.gs_asgT ?_ | refine MI.gs_par ?_ | refine MI.gs_put ?_ | refine MI.gs_if ?_ | refine MI.gs_ret ?_ | refine MI.gs_retN ?_ | refine MI.gs_expr ?_ | refine MI.gs_pass ?_ | refine MI.gs_brk ?_ | refine MI.gs_cont ?_ | refine MI.gs_while ?_ | refine MI.gs_for ?_ | refine MI.ge_of ?_ | refine MI.ga_val ?_ | refine MI.ga_new ?_ | refine MI.gl_nil ?_ | refine MI.gl_cons ?_ | refine MI.gr_nil ?_ | refine MI.gr_cons ?_ | refine MI.gi_rng ?_ | refine MI.gi_of ?_ | refine MI.gv_name ?_ | refine MI.gv_int ?_ | refine MI.gv_bl ?_ | refine MI.gv_str ?_ | refine MI.gv_non ?_ | refine MI.gv_ty ?_ | refine MI.gv_glob ?_ | refine MI.gv_bin ?_ | refine MI.gv_neg ?_ | refine MI.gv_not ?_ | refine MI.gv_and ?_ | refine MI.gv_or ?_ | refine MI.gand_one ?_ | refine MI.gand_cons ?_ | refine MI.gor_one ?_ | refine MI.gor_cons ?_ | refine MI.gv_cmp ?_ | refine MI.gv_chain ?_ | refine MI.gv_ife ?_ | refine MI.gv_idx ?_ | refine MI.gv_slice ?_ | refine MI.go_none ?_ | refine MI.go_some ?_ | refine MI.gv_rev ?_ | refine MI.gv_call ?_ | refine MI.gv_callK ?_ | refine MI.gv_bi ?_ | refine MI.gv_comp ?_ | refine MI.gv_pop ?_ | refine MI.gv_append ?_ | refine MI.gv_dct ?_ | refine MI.gt_not ?_ | refine MI.gt_and ?_ | refine MI.gt_or ?_ | refine MI.gandt_one ?_ | refine MI.gandt_cons ?_ | refine MI.gort_one ?_ | refine MI.gort_cons ?_ | refine MI.gt_val ?_ | refine MI.gifs_nil ?_ | refine MI.gifs_cons ?_ | refine MI.gif_true ?_ | refine MI.gif_false ?_ | refine MI.gif_not ?_ | refine MI.gb_add ?_ | refine MI.gb_sub ?_ | refine MI.gm_lt ?_ | refine MI.gm_le ?_ | refine MI.gm_gt ?_ | refine MI.gm_ge ?_ | refine MI.gm_eq ?_ | refine MI.gm_ne ?_ | refine MI.gm_seq ?_ | refine MI.gtr_bl ?_ | refine MI.gtr_int ?_ | refine MI.gbi_int_int ?_ | refine MI.gbi_int_bool ?_ | refine MI.gbi_int_tup ?_ | refine MI.gbi_int_list ?_ | refine MI.gbi_int_dict ?_ | refine MI.gbi_tup_tup ?_ | refine MI.gbi_bl_tup ?_ | refine MI.gbi_bl_list ?_ | refine MI.gbi_bl_dict ?_ | refine MI.gbi_bl_bool ?_ | refine MI.gbi_len_tup ?_ | refine MI.gbi_int1 ?_ | refine MI.gbi_max ?_)
    | with_reducible refine MI.gv_tup ?_
    | with_reducible refine MI.gv_lst ?_
    | with_reducible refine MI.gb_mod (by first | decide | omega) ?_
    | with_reducible refine MI.gb_div (by first | decide | assumption) ?_
    | with_reducible refine MI.gb_mul (by first | decide | assumption) ?_
    | with_reducible refine MI.gb_pow (by decide) ?_
    | with_reducible refine MI.gif_dec_t (by first | assumption | omega | decide) ?_
    | with_reducible refine MI.gif_dec_f (by first | assumption | omega | decide) ?_
    | refine MI.gif_t rfl ?_
    | refine MI.gif_f rfl ?_
    | with_reducible refine MI.grg_of (by omega) (by omega) ?_
    | refine MI.gx_of rfl ?_
    | refine MI.gbi_of rfl ?_
    | refine ⟨_, rfl, ?_⟩
    | refine ⟨_, _, rfl, rfl, ?_⟩
    | refine ⟨Nat.le_of_ble_eq_true rfl, ?_⟩)
  refine glf_all (fun i env st => True → ∃ z2 z3 z4 z5 z6 z7, env = [some (.frz (ns.map .int)), some (.ref 1), z2, z3, z4, z5, z6, z7] ∧ DeckSt 1 0 (1000 * i) st) (fun _ => ⟨none, none, none, none, none, none, rfl, d1⟩) ?_ ?_
  · rintro i tv env st hi h
    obtain ⟨z2, z3, z4, z5, z6, z7, rfl, d1⟩ := h trivial
    have hlt := (List.getElem?_eq_some_iff.mp hi).1
    rw [rngL_len] at hlt
    have hlt : i < 4 := hlt
    refine ⟨_, rfl, ?_⟩
    repeat (first
      | with_reducible (first | refine MI.gss_cons ?_ | refine MI.gss_nil ?_ | refine MI.gn_next ?_ | refine MI.gn_ret ?_ | refine MI.gn_brk ?_ | refine MI.gn_cont ?_ | refine MI.gk_next ?_ | refine MI.gk_cont ?_ | refine MI.gk_brk ?_ | refine MI.gk_ret ?_ | refine MI.gf_ret ?_ | refine MI.gf_next ?_ | refine MI.gs_asg ?_ | refine MI.gs_asgT ?_ | refine MI.gs_par ?_ | refine MI.gs_put ?_ | refine MI.gs_if ?_ | refine MI.gs_ret ?_ | refine MI.gs_retN ?_ | refine MI.gs_expr ?_ | refine MI.gs_pass ?_ | refine MI.gs_brk ?_ | refine MI.gs_cont ?_ | refine MI.gs_while ?_ | refine MI.gs_for ?_ | refine MI.ge_of ?_ | refine MI.ga_val ?_ | refine MI.ga_new ?_ | refine MI.gl_nil ?_ | refine MI.gl_cons ?_ | refine MI.gr_nil ?_ | refine MI.gr_cons ?_ | refine MI.gi_rng ?_ | refine MI.gi_of ?_ | refine MI.gv_name ?_ | refine MI.gv_int ?_ | refine MI.gv_bl ?_ | refine MI.gv_str ?_ | refine MI.gv_non ?_ | refine MI.gv_ty ?_ | refine MI.gv_glob ?_ | refine MI.gv_bin ?_ | refine MI.gv_neg ?_ | refine MI.gv_not ?_ | refine MI.gv_and ?_ | refine MI.gv_or ?_ | refine MI.gand_one ?_ | refine MI.gand_cons ?_ | refine MI.gor_one ?_ | refine MI.gor_cons ?_ | refine MI.gv_cmp ?_ | refine MI.gv_chain ?_ | refine MI.gv_ife ?_ | refine MI.gv_idx ?_ | refine MI.gv_slice ?_ | refine MI.go_none ?_ | refine MI.go_some ?_ | refine MI.gv_rev ?_ | refine MI.gv_call ?_ | refine MI.gv_callK ?_ | refine MI.gv_bi ?_ | refine MI.gv_comp ?_ | refine MI.gv_pop ?_ | refine MI.gv_append ?_ | refine MI.gv_dct ?_ | refine MI.gt_not ?_ | refine MI.gt_and ?_ | refine MI.gt_or ?_ | refine MI.gandt_one ?_ | refine MI.gandt_cons ?_ | refine MI.gort_one ?_ | refine MI.gort_cons ?_ | refine MI.gt_val ?_ | refine MI.gifs_nil ?_ | refine MI.gifs_cons ?_ | refine MI.gif_true ?_ | refine MI.gif_false ?_ | refine MI.gif_not ?_ | refine MI.gb_add ?_ | refine MI.gb_sub ?_ | refine MI.gm_lt ?_ | refine MI.gm_le ?_ | refine MI.gm_gt ?_ | refine MI.gm_ge ?_ | refine MI.gm_eq ?_ | refine MI.gm_ne ?_ | refine MI.gm_seq ?_ | refine MI.gtr_bl ?_ | refine MI.gtr_int ?_ | refine MI.gbi_int_int ?_ | refine MI.gbi_int_bool ?_ | refine MI.gbi_int_tup ?_ | refine MI.gbi_int_list ?_ | refine MI.gbi_int_dict ?_ | refine MI.gbi_tup_tup ?_ | refine MI.gbi_bl_tup ?_ | refine MI.gbi_bl_list ?_ | refine MI.gbi_bl_dict ?_ | refine MI.gbi_bl_bool ?_ | refine MI.gbi_len_tup ?_ | refine MI.gbi_int1 ?_ | refine MI.gbi_max ?_)
      | with_reducible refine MI.gv_tup ?_
      | with_reducible refine MI.gv_lst ?_
      | with_reducible refine MI.gb_mod (by first | decide | omega) ?_
      | with_reducible refine MI.gb_div (by first | decide | assumption) ?_
      | with_reducible refine MI.gb_mul (by first | decide | assumption) ?_
      | with_reducible refine MI.gb_pow (by decide) ?_
      | with_reducible refine MI.gif_dec_t (by first | assumption | omega | decide) ?_
      | with_reducible refine MI.gif_dec_f (by first | assumption | omega | decide) ?_
      | refine MI.gif_t rfl ?_
      | refine MI.gif_f rfl ?_
      | with_reducible refine MI.grg_of (by omega) (by omega) ?_
      | refine MI.gx_of rfl ?_
      | refine MI.gbi_of rfl ?_
      | refine ⟨_, rfl, ?_⟩
      | refine ⟨_, _, rfl, rfl, ?_⟩
      | refine MI.glc_next rfl ?_
      | refine MI.glc_end rfl ?_
      | refine MI.glf_next rfl ?_
      | refine MI.glf_end rfl ?_
      | refine ⟨Nat.le_of_ble_eq_true rfl, ?_⟩)
    refine p_root d1 (by omega) fun x st1 lx hx d2 f2 => ?_
    repeat (first
      | with_reducible (first | refine MI.gss_cons ?_ | refine MI.gss_nil ?_ | refine MI.gn_next ?_ | refine MI.gn_ret ?_ | refine MI.gn_brk ?_ | refine MI.gn_cont ?_ | refine MI.gk_next ?_ | refine MI.gk_cont ?_ | refine MI.gk_brk ?_ | refine MI.gk_ret ?_ | refine MI.gf_ret ?_ | refine MI.gf_next ?_ | refine MI.gs_asg ?_ | refine MI.gs_asgT ?_ | refine MI.gs_par ?_ | refine MI.gs_put ?_ | refine MI.gs_if ?_ | refine MI.gs_ret ?_ | refine MI.gs_retN ?_ | refine MI.gs_expr ?_ | refine MI.gs_pass ?_ | refine MI.gs_brk ?_ | refine MI.gs_cont ?_ | refine MI.gs_while ?_ | refine MI.gs_for ?_ | refine MI.ge_of ?_ | refine MI.ga_val ?_ | refine MI.ga_new ?_ | refine MI.gl_nil ?_ | refine MI.gl_cons ?_ | refine MI.gr_nil ?_ | refine MI.gr_cons ?_ | refine MI.gi_rng ?_ | refine MI.gi_of ?_ | refine MI.gv_name ?_ | refine MI.gv_int ?_ | refine MI.gv_bl ?_ | refine MI.gv_str ?_ | refine MI.gv_non ?_ | refine MI.gv_ty ?_ | refine MI.gv_glob ?_ | refine MI.gv_bin ?_ | refine MI.gv_neg ?_ | refine MI.gv_not ?_ | refine MI.gv_and ?_ | refine MI.gv_or ?_ | refine MI.gand_one ?_ | refine MI.gand_cons ?_ | refine MI.gor_one ?_ | refine MI.gor_cons ?_ | refine MI.gv_cmp ?_ | refine MI.gv_chain ?_ | refine MI.gv_ife ?_ | refine MI.gv_idx ?_ | refine MI.gv_slice ?_ | refine MI.go_none ?_ | refine MI.go_some ?_ | refine MI.gv_rev ?_ | refine MI.gv_call ?_ | refine MI.gv_callK ?_ | refine MI.gv_bi ?_ | refine MI.gv_comp ?_ | refine MI.gv_pop ?_ | refine MI.gv_append ?_ | refine MI.gv_dct ?_ | refine MI.gt_not ?_ | refine MI.gt_and ?_ | refine MI.gt_or ?_ | refine MI.gandt_one ?_ | refine MI.gandt_cons ?_ | refine MI.gort_one ?_ | refine MI.gort_cons ?_ | refine MI.gt_val ?_ | refine MI.gifs_nil ?_ | refine MI.gifs_cons ?_ | refine MI.gif_true ?_ | refine MI.gif_false ?_ | refine MI.gif_not ?_ | refine MI.gb_add ?_ | refine MI.gb_sub ?_ | refine MI.gm_lt ?_ | refine MI.gm_le ?_ | refine MI.gm_gt ?_ | refine MI.gm_ge ?_ | refine MI.gm_eq ?_ | refine MI.gm_ne ?_ | refine MI.gm_seq ?_ | refine MI.gtr_bl ?_ | refine MI.gtr_int ?_ | refine MI.gbi_int_int ?_ | refine MI.gbi_int_bool ?_ | refine MI.gbi_int_tup ?_ | refine MI.gbi_int_list ?_ | refine MI.gbi_int_dict ?_ | refine MI.gbi_tup_tup ?_ | refine MI.gbi_bl_tup ?_ | refine MI.gbi_bl_list ?_ | refine MI.gbi_bl_dict ?_ | refine MI.gbi_bl_bool ?_ | refine MI.gbi_len_tup ?_ | refine MI.gbi_int1 ?_ | refine MI.gbi_max ?_)
      | with_reducible refine MI.gv_tup ?_
      | with_reducible refine MI.gv_lst ?_
      | with_reducible refine MI.gb_mod (by first | decide | omega) ?_
      | with_reducible refine MI.gb_div (by first | decide | assumption) ?_
      | with_reducible refine MI.gb_mul (by first | decide | assumption) ?_
      | with_reducible refine MI.gb_pow (by decide) ?_
      | with_reducible refine MI.gif_dec_t (by first | assumption | omega | decide) ?_
      | with_reducible refine MI.gif_dec_f (by first | assumption | omega | decide) ?_
      | refine MI.gif_t rfl ?_
      | refine MI.gif_f rfl ?_
      | with_reducible refine MI.grg_of (by omega) (by omega) ?_
      | refine MI.gx_of rfl ?_
      | refine MI.gbi_of rfl ?_
      | refine ⟨_, rfl, ?_⟩
      | refine ⟨_, _, rfl, rfl, ?_⟩
      | refine MI.glc_next rfl ?_
      | refine MI.glc_end rfl ?_
      | refine MI.glf_next rfl ?_
      | refine MI.glf_end rfl ?_
      | refine ⟨Nat.le_of_ble_eq_true rfl, ?_⟩)
    refine p_second lx hx d2 (by omega) fun y st2 ly hy d3 f3 => ?_
    have hx := hx.mono (show 2100 ≤ 5000 by decide)
    repeat (first
      | with_reducible (first | refine MI.gss_cons ?_ | refine MI.gss_nil ?_ | refine MI.gn_next ?_ | refine MI.gn_ret ?_ | refine MI.gn_brk ?_ | refine MI.gn_cont ?_ | refine MI.gk_next ?_ | refine MI.gk_cont ?_ | refine MI.gk_brk ?_ | refine MI.gk_ret ?_ | refine MI.gf_ret ?_ | refine MI.gf_next ?_ | refine MI.gs_asg ?_ | refine MI.gs_asgT ?_ | refine MI.gs_par ?_ | refine MI.gs_put ?_ | refine MI.gs_if ?_ | refine MI.gs_ret ?_ | refine MI.gs_retN ?_ | refine MI.gs_expr ?_ | refine MI.gs_pass ?_ | refine MI.gs_brk ?_ | refine MI.gs_cont ?_ | refine MI.gs_while ?_ | refine MI.gs_for ?_ | refine MI.ge_of ?_ | refine MI.ga_val ?_ | refine MI.ga_new ?_ | refine MI.gl_nil ?_ | refine MI.gl_cons ?_ | refine MI.gr_nil ?_ | refine MI.gr_cons ?_ | refine MI.gi_rng ?_ | refine MI.gi_of ?_ | refine MI.gv_name ?_ | refine MI.gv_int ?_ | refine MI.gv_bl ?_ | refine MI.gv_str ?_ | refine MI.gv_non ?_ | refine MI.gv_ty ?_ | refine MI.gv_glob ?_ | refine MI.gv_bin ?_ | refine MI.gv_neg ?_ | refine MI.gv_not ?_ | refine MI.gv_and ?_ | refine MI.gv_or ?_ | refine MI.gand_one ?_ | refine MI.gand_cons ?_ | refine MI.gor_one ?_ | refine MI.gor_cons ?_ | refine MI.gv_cmp ?_ | refine MI.gv_chain ?_ | refine MI.gv_ife ?_ | refine MI.gv_idx ?_ | refine MI.gv_slice ?_ | refine MI.go_none ?_ | refine MI.go_some ?_ | refine MI.gv_rev ?_ | refine MI.gv_call ?_ | refine MI.gv_callK ?_ | refine MI.gv_bi ?_ | refine MI.gv_comp ?_ | refine MI.gv_pop ?_ | refine MI.gv_append ?_ | refine MI.gv_dct ?_ | refine MI.gt_not ?_ | refine MI.gt_and ?_ | refine MI.gt_or ?_ | refine MI.gandt_one ?_ | refine MI.gandt_cons ?_ | refine MI.gort_one ?_ | refine MI.gort_cons ?_ | refine MI.gt_val ?_ | refine MI.gifs_nil ?_ | refine MI.gifs_cons ?_ | refine MI.gif_true ?_ | refine MI.gif_false ?_ | refine MI.gif_not ?_ | refine MI.gb_add ?_ | refine MI.gb_sub ?_ | refine MI.gm_lt ?_ | refine MI.gm_le ?_ | refine MI.gm_gt ?_ | refine MI.gm_ge ?_ | refine MI.gm_eq ?_ | refine MI.gm_ne ?_ | refine MI.gm_seq ?_ | refine MI.gtr_bl ?_ | refine MI.gtr_int ?_ | refine MI.gbi_int_int ?_ | refine MI.gbi_int_bool ?_ | refine MI.gbi_int_tup ?_ | refine MI.gbi_int_list ?_ | refine MI.gbi_int_dict ?_ | refine MI.gbi_tup_tup ?_ | refine MI.gbi_bl_tup ?_ | refine MI.gbi_bl_list ?_ | refine MI.gbi_bl_dict ?_ | refine MI.gbi_bl_bool ?_ | refine MI.gbi_len_tup ?_ | refine MI.gbi_int1 ?_ | refine MI.gbi_max ?_)
      | with_reducible refine MI.gv_tup ?_
      | with_reducible refine MI.gv_lst ?_
      | with_reducible refine MI.gb_mod (by first | decide | omega) ?_
      | with_reducible refine MI.gb_div (by first | decide | assumption) ?_
      | with_reducible refine MI.gb_mul (by first | decide | assumption) ?_
      | with_reducible refine MI.gb_pow (by decide) ?_
      | with_reducible refine MI.gif_dec_t (by first | assumption | omega | decide) ?_
      | with_reducible refine MI.gif_dec_f (by first | assumption | omega | decide) ?_
      | refine MI.gif_t rfl ?_
      | refine MI.gif_f rfl ?_
      | with_reducible refine MI.grg_of (by omega) (by omega) ?_
      | refine MI.gx_of rfl ?_
      | refine MI.gbi_of rfl ?_
      | refine ⟨_, rfl, ?_⟩
      | refine ⟨_, _, rfl, rfl, ?_⟩
      | refine MI.glc_next rfl ?_
      | refine MI.glc_end rfl ?_
      | refine MI.glf_next rfl ?_
      | refine MI.glf_end rfl ?_
      | refine ⟨Nat.le_of_ble_eq_true rfl, ?_⟩)
    refine s_draw d3 (by decide) (by decide) (by omega) fun r1 st3 a0 a1 d4 f4 => ?_
    repeat (first
      | with_reducible (first | refine MI.gss_cons ?_ | refine MI.gss_nil ?_ | refine MI.gn_next ?_ | refine MI.gn_ret ?_ | refine MI.gn_brk ?_ | refine MI.gn_cont ?_ | refine MI.gk_next ?_ | refine MI.gk_cont ?_ | refine MI.gk_brk ?_ | refine MI.gk_ret ?_ | refine MI.gf_ret ?_ | refine MI.gf_next ?_ | refine MI.gs_asg ?_ | refine MI.gs_asgT ?_ | refine MI.gs_par ?_ | refine MI.gs_put ?_ | refine MI.gs_if ?_ | refine MI.gs_ret ?_ | refine MI.gs_retN ?_ | refine MI.gs_expr ?_ | refine MI.gs_pass ?_ | refine MI.gs_brk ?_ | refine MI.gs_cont ?_ | refine MI.gs_while ?_ | refine MI.gs_for ?_ | refine MI.ge_of ?_ | refine MI.ga_val ?_ | refine MI.ga_new ?_ | refine MI.gl_nil ?_ | refine MI.gl_cons ?_ | refine MI.gr_nil ?_ | refine MI.gr_cons ?_ | refine MI.gi_rng ?_ | refine MI.gi_of ?_ | refine MI.gv_name ?_ | refine MI.gv_int ?_ | refine MI.gv_bl ?_ | refine MI.gv_str ?_ | refine MI.gv_non ?_ | refine MI.gv_ty ?_ | refine MI.gv_glob ?_ | refine MI.gv_bin ?_ | refine MI.gv_neg ?_ | refine MI.gv_not ?_ | refine MI.gv_and ?_ | refine MI.gv_or ?_ | refine MI.gand_one ?_ | refine MI.gand_cons ?_ | refine MI.gor_one ?_ | refine MI.gor_cons ?_ | refine MI.gv_cmp ?_ | refine MI.gv_chain ?_ | refine MI.gv_ife ?_ | refine MI.gv_idx ?_ | refine MI.gv_slice ?_ | refine MI.go_none ?_ | refine MI.go_some ?_ | refine MI.gv_rev ?_ | refine MI.gv_call ?_ | refine MI.gv_callK ?_ | refine MI.gv_bi ?_ | refine MI.gv_comp ?_ | refine MI.gv_pop ?_ | refine MI.gv_append ?_ | refine MI.gv_dct ?_ | refine MI.gt_not ?_ | refine MI.gt_and ?_ | refine MI.gt_or ?_ | refine MI.gandt_one ?_ | refine MI.gandt_cons ?_ | refine MI.gort_one ?_ | refine MI.gort_cons ?_ | refine MI.gt_val ?_ | refine MI.gifs_nil ?_ | refine MI.gifs_cons ?_ | refine MI.gif_true ?_ | refine MI.gif_false ?_ | refine MI.gif_not ?_ | refine MI.gb_add ?_ | refine MI.gb_sub ?_ | refine MI.gm_lt ?_ | refine MI.gm_le ?_ | refine MI.gm_gt ?_ | refine MI.gm_ge ?_ | refine MI.gm_eq ?_ | refine MI.gm_ne ?_ | refine MI.gm_seq ?_ | refine MI.gtr_bl ?_ | refine MI.gtr_int ?_ | refine MI.gbi_int_int ?_ | refine MI.gbi_int_bool ?_ | refine MI.gbi_int_tup ?_ | refine MI.gbi_int_list ?_ | refine MI.gbi_int_dict ?_ | refine MI.gbi_tup_tup ?_ | refine MI.gbi_bl_tup ?_ | refine MI.gbi_bl_list ?_ | refine MI.gbi_bl_dict ?_ | refine MI.gbi_bl_bool ?_ | refine MI.gbi_len_tup ?_ | refine MI.gbi_int1 ?_ | refine MI.gbi_max ?_)
      | with_reducible refine MI.gv_tup ?_
      | with_reducible refine MI.gv_lst ?_
      | with_reducible refine MI.gb_mod (by first | decide | omega) ?_
      | with_reducible refine MI.gb_div (by first | decide | assumption) ?_
      | with_reducible refine MI.gb_mul (by first | decide | assumption) ?_
      | with_reducible refine MI.gb_pow (by decide) ?_
      | with_reducible refine MI.gif_dec_t (by first | assumption | omega | decide) ?_
      | with_reducible refine MI.gif_dec_f (by first | assumption | omega | decide) ?_
      | refine MI.gif_t rfl ?_
      | refine MI.gif_f rfl ?_
      | with_reducible refine MI.grg_of (by omega) (by omega) ?_
      | refine MI.gx_of rfl ?_
      | refine MI.gbi_of rfl ?_
      | refine ⟨_, rfl, ?_⟩
      | refine ⟨_, _, rfl, rfl, ?_⟩
      | refine MI.glc_next rfl ?_
      | refine MI.glc_end rfl ?_
      | refine MI.glf_next rfl ?_
      | refine MI.glf_end rfl ?_
      | refine ⟨Nat.le_of_ble_eq_true rfl, ?_⟩)
    refine s_draw d4 (by decide) (by decide) (by omega) fun r2 st4 b0 b1 d5 f5 => ?_
    repeat (first
      | with_reducible (first | refine MI.gss_cons ?_ | refine MI.gss_nil ?_ | refine MI.gn_next ?_ | refine MI.gn_ret ?_ | refine MI.gn_brk ?_ | refine MI.gn_cont ?_ | refine MI.gk_next ?_ | refine MI.gk_cont ?_ | refine MI.gk_brk ?_ | refine MI.gk_ret ?_ | refine MI.gf_ret ?_ | refine MI.gf_next ?_ | refine MI.gs_asg ?_ | refine MI.gs_asgT ?_ | refine MI.gs_par ?_ | refine MI.gs_put ?_ | refine MI.gs_if ?_ | refine MI.gs_ret ?_ | refine MI.gs_retN ?_ | refine MI.gs_expr ?_ | refine MI.gs_pass ?_ | refine MI.gs_brk ?_ | refine MI.gs_cont ?_ | refine MI.gs_while ?_ | refine MI.gs_for ?_ | refine MI.ge_of ?_ | refine MI.ga_val ?_ | refine MI.ga_new ?_ | refine MI.gl_nil ?_ | refine MI.gl_cons ?_ | refine MI.gr_nil ?_ | refine MI.gr_cons ?_ | refine MI.gi_rng ?_ | refine MI.gi_of ?_ | refine MI.gv_name ?_ | refine MI.gv_int ?_ | refine MI.gv_bl ?_ | refine MI.gv_str ?_ | refine MI.gv_non ?_ | refine MI.gv_ty ?_ | refine MI.gv_glob ?_ | refine MI.gv_bin ?_ | refine MI.gv_neg ?_ | refine MI.gv_not ?_ | refine MI.gv_and ?_ | refine MI.gv_or ?_ | refine MI.gand_one ?_ | refine MI.gand_cons ?_ | refine MI.gor_one ?_ | refine MI.gor_cons ?_ | refine MI.gv_cmp ?_ | refine MI.gv_chain ?_ | refine MI.gv_ife ?_ | refine MI.gv_idx ?_ | refine MI.gv_slice ?_ | refine MI.go_none ?_ | refine MI.go_some ?_ | refine MI.gv_rev ?_ | refine MI.gv_call ?_ | refine MI.gv_callK ?_ | refine MI.gv_bi ?_ | refine MI.gv_comp ?_ | refine MI.gv_pop ?_ | refine MI.gv_append ?_ | refine MI.gv_dct ?_ | refine MI.gt_not ?_ | refine MI.gt_and ?_ | refine MI.gt_or ?_ | refine MI.gandt_one ?_ | refine MI.gandt_cons ?_ | refine MI.gort_one ?_ | refine MI.gort_cons ?_ | refine MI.gt_val ?_ | refine MI.gifs_nil ?_ | refine MI.gifs_cons ?_ | refine MI.gif_true ?_ | refine MI.gif_false ?_ | refine MI.gif_not ?_ | refine MI.gb_add ?_ | refine MI.gb_sub ?_ | refine MI.gm_lt ?_ | refine MI.gm_le ?_ | refine MI.gm_gt ?_ | refine MI.gm_ge ?_ | refine MI.gm_eq ?_ | refine MI.gm_ne ?_ | refine MI.gm_seq ?_ | refine MI.gtr_bl ?_ | refine MI.gtr_int ?_ | refine MI.gbi_int_int ?_ | refine MI.gbi_int_bool ?_ | refine MI.gbi_int_tup ?_ | refine MI.gbi_int_list ?_ | refine MI.gbi_int_dict ?_ | refine MI.gbi_tup_tup ?_ | refine MI.gbi_bl_tup ?_ | refine MI.gbi_bl_list ?_ | refine MI.gbi_bl_dict ?_ | refine MI.gbi_bl_bool ?_ | refine MI.gbi_len_tup ?_ | refine MI.gbi_int1 ?_ | refine MI.gbi_max ?_)
      | with_reducible refine MI.gv_tup ?_
      | with_reducible refine MI.gv_lst ?_
      | with_reducible refine MI.gb_mod (by first | decide | omega) ?_
      | with_reducible refine MI.gb_div (by first | decide | assumption) ?_
      | with_reducible refine MI.gb_mul (by first | decide | assumption) ?_
      | with_reducible refine MI.gb_pow (by decide) ?_
      | with_reducible refine MI.gif_dec_t (by first | assumption | omega | decide) ?_
      | with_reducible refine MI.gif_dec_f (by first | assumption | omega | decide) ?_
      | refine MI.gif_t rfl ?_
      | refine MI.gif_f rfl ?_
      | with_reducible refine MI.grg_of (by omega) (by omega) ?_
      | refine MI.gx_of rfl ?_
      | refine MI.gbi_of rfl ?_
      | refine ⟨_, rfl, ?_⟩
      | refine ⟨_, _, rfl, rfl, ?_⟩
      | refine MI.glc_next rfl ?_
      | refine MI.glc_end rfl ?_
      | refine MI.glf_next rfl ?_
      | refine MI.glf_end rfl ?_
      | refine ⟨Nat.le_of_ble_eq_true rfl, ?_⟩)
    refine s_pickN d5 (by omega) (by simp) (by simp) fun v hv st5 d6 f6 => ?_
    have hv2 : ∃ j : Int, v = .int j := by
      simp only [List.mem_cons, List.not_mem_nil, or_false] at hv
      rcases hv with rfl | rfl | rfl | rfl | rfl | rfl | rfl | rfl | rfl | rfl | rfl <;> exact ⟨_, rfl⟩
    obtain ⟨j, rfl⟩ := hv2
    repeat (first
      | with_reducible (first | refine MI.gss_cons ?_ | refine MI.gss_nil ?_ | refine MI.gn_next ?_ | refine MI.gn_ret ?_ | refine MI.gn_brk ?_ | refine MI.gn_cont ?_ | refine MI.gk_next ?_ | refine MI.gk_cont ?_ | refine MI.gk_brk ?_ | refine MI.gk_ret ?_ | refine MI.gf_ret ?_ | refine MI.gf_next ?_ | refine MI.gs_asg ?_ | refine MI.gs_asgT ?_ | refine MI.gs_par ?_ | refine MI.gs_put ?_ | refine MI.gs_if ?_ | refine MI.gs_ret ?_ | refine MI.gs_retN ?_ | refine MI.gs_expr ?_ | refine MI.gs_pass ?_ | refine MI.gs_brk ?_ | refine MI.gs_cont ?_ | refine MI.gs_while ?_ | refine MI.gs_for ?_ | refine MI.ge_of ?_ | refine MI.ga_val ?_ | refine MI.ga_new ?_ | refine MI.gl_nil ?_ | refine MI.gl_cons ?_ | refine MI.gr_nil ?_ | refine MI.gr_cons ?_ | refine MI.gi_rng ?_ | refine MI.gi_of ?_ | refine MI.gv_name ?_ | refine MI.gv_int ?_ | refine MI.gv_bl ?_ | refine MI.gv_str ?_ | refine MI.gv_non ?_ | refine MI.gv_ty ?_ | refine MI.gv_glob ?_ | refine MI.gv_bin ?_ | refine MI.gv_neg ?_ | refine MI.gv_not ?_ | refine MI.gv_and ?_ | refine MI.gv_or ?_ | refine MI.gand_one ?_ | refine MI.gand_cons ?_ | refine MI.gor_one ?_ | refine MI.gor_cons ?_ | refine MI.gv_cmp ?_ | refine MI.gv_chain ?_ | refine MI.gv_ife ?_ | refine MI.gv_idx ?_ | refine MI.gv_slice ?_ | refine MI.go_none ?_ | refine MI.go_some ?_ | refine MI.gv_rev ?_ | refine MI.gv_call ?_ | refine MI.gv_callK ?_ | refine MI.gv_bi ?_ | refine MI.gv_comp ?_ | refine MI.gv_pop ?_ | refine MI.gv_append ?_ | refine MI.gv_dct ?_ | refine MI.gt_not ?_ | refine MI.gt_and ?_ | refine MI.gt_or ?_ | refine MI.gandt_one ?_ | refine MI.gandt_cons ?_ | refine MI.gort_one ?_ | refine MI.gort_cons ?_ | refine MI.gt_val ?_ | refine MI.gifs_nil ?_ | refine MI.gifs_cons ?_ | refine MI.gif_true ?_ | refine MI.gif_false ?_ | refine MI.gif_not ?_ | refine MI.gb_add ?_ | refine MI.gb_sub ?_ | refine MI.gm_lt ?_ | refine MI.gm_le ?_ | refine MI.gm_gt ?_ | refine MI.gm_ge ?_ | refine MI.gm_eq ?_ | refine MI.gm_ne ?_ | refine MI.gm_seq ?_ | refine MI.gtr_bl ?_ | refine MI.gtr_int ?_ | refine MI.gbi_int_int ?_ | refine MI.gbi_int_bool ?_ | refine MI.gbi_int_tup ?_ | refine MI.gbi_int_list ?_ | refine MI.gbi_int_dict ?_ | refine MI.gbi_tup_tup ?_ | refine MI.gbi_bl_tup ?_ | refine MI.gbi_bl_list ?_ | refine MI.gbi_bl_dict ?_ | refine MI.gbi_bl_bool ?_ | refine MI.gbi_len_tup ?_ | refine MI.gbi_int1 ?_ | refine MI.gbi_max ?_)
      | refine p_rplus lx ly hx hy (by decide) ?_
      | refine p_rplus ly lx hy hx (by decide) ?_
      | refine p_rtimes lx ly hx hy (by decide) ?_
      | refine p_rtimes ly lx hy hx (by decide) ?_
      | refine p_lplus hx hy (by decide) ?_
      | refine p_ltimes hx hy (by decide) ?_
      | refine gb_tmul rfl ?_
      | refine gb_tadd (Nat.le_of_ble_eq_true rfl) ?_
      | with_reducible refine MI.gv_tup ?_
      | with_reducible refine MI.gv_lst ?_
      | with_reducible refine MI.gb_mod (by first | decide | omega) ?_
      | with_reducible refine MI.gb_div (by first | decide | assumption) ?_
      | with_reducible refine MI.gb_mul (by first | decide | assumption) ?_
      | with_reducible refine MI.gb_pow (by decide) ?_
      | with_reducible refine MI.gif_dec_t (by first | assumption | omega | decide) ?_
      | with_reducible refine MI.gif_dec_f (by first | assumption | omega | decide) ?_
      | refine MI.gif_t rfl ?_
      | refine MI.gif_f rfl ?_
      | with_reducible refine MI.grg_of (by omega) (by omega) ?_
      | refine MI.gx_of rfl ?_
      | refine MI.gbi_of rfl ?_
      | refine ⟨_, rfl, ?_⟩
      | refine ⟨_, _, rfl, rfl, ?_⟩
      | refine MI.glc_next rfl ?_
      | refine MI.glc_end rfl ?_
      | refine MI.glf_next rfl ?_
      | refine MI.glf_end rfl ?_
      | refine ⟨Nat.le_of_ble_eq_true rfl, ?_⟩)
    show GC G _ 22 [.tup [rv (plusQ x y), rv (plusQ y x), rv (timesQ x y), rv (timesQ y x)], .tup [rv (plusQ x y), rv (plusQ x y), rv (timesQ x y), rv (timesQ x y)]] _ _
    rw [plusQ_comm (x := x) (y := y), timesQ_comm (x := x) (y := y)]
    refine s_same 2 (d := d + 5) (pl_list (by show 4 ≤ 1000; decide) fun v hv => ?_) ?_
    · simp only [List.mem_cons, List.not_mem_nil, or_false] at hv
      rcases hv with rfl | rfl | rfl | rfl <;> exact pl_rv _
    repeat (first
      | with_reducible (first | refine MI.gss_cons ?_ | refine MI.gss_nil ?_ | refine MI.gn_next ?_ | refine MI.gn_ret ?_ | refine MI.gn_brk ?_ | refine MI.gn_cont ?_ | refine MI.gk_next ?_ | refine MI.gk_cont ?_ | refine MI.gk_brk ?_ | refine MI.gk_ret ?_ | refine MI.gf_ret ?_ | refine MI.gf_next ?_ | refine MI.gs_asg ?_ | refine MI.gs_asgT ?_ | refine MI.gs_par ?_ | refine MI.gs_put ?_ | refine MI.gs_if ?_ | refine MI.gs_ret ?_ | refine MI.gs_retN ?_ | refine MI.gs_expr ?_ | refine MI.gs_pass ?_ | refine MI.gs_brk ?_ | refine MI.gs_cont ?_ | refine MI.gs_while ?_ | refine MI.gs_for ?_ | refine MI.ge_of ?_ | refine MI.ga_val ?_ | refine MI.ga_new ?_ | refine MI.gl_nil ?_ | refine MI.gl_cons ?_ | refine MI.gr_nil ?_ | refine MI.gr_cons ?_ | refine MI.gi_rng ?_ | refine MI.gi_of ?_ | refine MI.gv_name ?_ | refine MI.gv_int ?_ | refine MI.gv_bl ?_ | refine MI.gv_str ?_ | refine MI.gv_non ?_ | refine MI.gv_ty ?_ | refine MI.gv_glob ?_ | refine MI.gv_bin ?_ | refine MI.gv_neg ?_ | refine MI.gv_not ?_ | refine MI.gv_and ?_ | refine MI.gv_or ?_ | refine MI.gand_one ?_ | refine MI.gand_cons ?_ | refine MI.gor_one ?_ | refine MI.gor_cons ?_ | refine MI.gv_cmp ?_ | refine MI.gv_chain ?_ | refine MI.gv_ife ?_ | refine MI.gv_idx ?_ | refine MI.gv_slice ?_ | refine MI.go_none ?_ | refine MI.go_some ?_ | refine MI.gv_rev ?_ | refine MI.gv_call ?_ | refine MI.gv_callK ?_ | refine MI.gv_bi ?_ | refine MI.gv_comp ?_ | refine MI.gv_pop ?_ | refine MI.gv_append ?_ | refine MI.gv_dct ?_ | refine MI.gt_not ?_ | refine MI.gt_and ?_ | refine MI.gt_or ?_ | refine MI.gandt_one ?_ | refine MI.gandt_cons ?_ | refine MI.gort_one ?_ | refine MI.gort_cons ?_ | refine MI.gt_val ?_ | refine MI.gifs_nil ?_ | refine MI.gifs_cons ?_ | refine MI.gif_true ?_ | refine MI.gif_false ?_ | refine MI.gif_not ?_ | refine MI.gb_add ?_ | refine MI.gb_sub ?_ | refine MI.gm_lt ?_ | refine MI.gm_le ?_ | refine MI.gm_gt ?_ | refine MI.gm_ge ?_ | refine MI.gm_eq ?_ | refine MI.gm_ne ?_ | refine MI.gm_seq ?_ | refine MI.gtr_bl ?_ | refine MI.gtr_int ?_ | refine MI.gbi_int_int ?_ | refine MI.gbi_int_bool ?_ | refine MI.gbi_int_tup ?_ | refine MI.gbi_int_list ?_ | refine MI.gbi_int_dict ?_ | refine MI.gbi_tup_tup ?_ | refine MI.gbi_bl_tup ?_ | refine MI.gbi_bl_list ?_ | refine MI.gbi_bl_dict ?_ | refine MI.gbi_bl_bool ?_ | refine MI.gbi_len_tup ?_ | refine MI.gbi_int1 ?_ | refine MI.gbi_max ?_)
      | refine p_rminus lx ?_
      | refine p_rminus ly ?_
      | refine p_conj lx ?_
      | refine p_conj ly ?_
      | refine p_turned lx ?_
      | refine p_turned ly ?_
      | refine p_lminus ?_
      | refine p_lbar ?_
      | refine p_lturned ?_
      | with_reducible refine MI.gv_tup ?_
      | with_reducible refine MI.gv_lst ?_
      | with_reducible refine MI.gb_mod (by first | decide | omega) ?_
      | with_reducible refine MI.gb_div (by first | decide | assumption) ?_
      | with_reducible refine MI.gb_mul (by first | decide | assumption) ?_
      | with_reducible refine MI.gb_pow (by decide) ?_
      | with_reducible refine MI.gif_dec_t (by first | assumption | omega | decide) ?_
      | with_reducible refine MI.gif_dec_f (by first | assumption | omega | decide) ?_
      | refine MI.gif_t rfl ?_
      | refine MI.gif_f rfl ?_
      | with_reducible refine MI.grg_of (by omega) (by omega) ?_
      | refine MI.gx_of rfl ?_
      | refine MI.gbi_of rfl ?_
      | refine ⟨_, rfl, ?_⟩
      | refine ⟨_, _, rfl, rfl, ?_⟩
      | refine MI.glc_next rfl ?_
      | refine MI.glc_end rfl ?_
      | refine MI.glf_next rfl ?_
      | refine MI.glf_end rfl ?_
      | refine ⟨Nat.le_of_ble_eq_true rfl, ?_⟩)
    refine s_same 2 (d := d + 5) (pl_list (by show 6 ≤ 1000; decide) fun v hv => ?_) ?_
    · simp only [List.mem_cons, List.not_mem_nil, or_false] at hv
      rcases hv with rfl | rfl | rfl | rfl | rfl | rfl <;> exact pl_rv _
    repeat (first
      | with_reducible (first | refine MI.gss_cons ?_ | refine MI.gss_nil ?_ | refine MI.gn_next ?_ | refine MI.gn_ret ?_ | refine MI.gn_brk ?_ | refine MI.gn_cont ?_ | refine MI.gk_next ?_ | refine MI.gk_cont ?_ | refine MI.gk_brk ?_ | refine MI.gk_ret ?_ | refine MI.gf_ret ?_ | refine MI.gf_next ?_ | refine MI.gs_asg ?_ | refine MI.gs_asgT ?_ | refine MI.gs_par ?_ | refine MI.gs_put ?_ | refine MI.gs_if ?_ | refine MI.gs_ret ?_ | refine MI.gs_retN ?_ | refine MI.gs_expr ?_ | refine MI.gs_pass ?_ | refine MI.gs_brk ?_ | refine MI.gs_cont ?_ | refine MI.gs_while ?_ | refine MI.gs_for ?_ | refine MI.ge_of ?_ | refine MI.ga_val ?_ | refine MI.ga_new ?_ | refine MI.gl_nil ?_ | refine MI.gl_cons ?_ | refine MI.gr_nil ?_ | refine MI.gr_cons ?_ | refine MI.gi_rng ?_ | refine MI.gi_of ?_ | refine MI.gv_name ?_ | refine MI.gv_int ?_ | refine MI.gv_bl ?_ | refine MI.gv_str ?_ | refine MI.gv_non ?_ | refine MI.gv_ty ?_ | refine MI.gv_glob ?_ | refine MI.gv_bin ?_ | refine MI.gv_neg ?_ | refine MI.gv_not ?_ | refine MI.gv_and ?_ | refine MI.gv_or ?_ | refine MI.gand_one ?_ | refine MI.gand_cons ?_ | refine MI.gor_one ?_ | refine MI.gor_cons ?_ | refine MI.gv_cmp ?_ | refine MI.gv_chain ?_ | refine MI.gv_ife ?_ | refine MI.gv_idx ?_ | refine MI.gv_slice ?_ | refine MI.go_none ?_ | refine MI.go_some ?_ | refine MI.gv_rev ?_ | refine MI.gv_call ?_ | refine MI.gv_callK ?_ | refine MI.gv_bi ?_ | refine MI.gv_comp ?_ | refine MI.gv_pop ?_ | refine MI.gv_append ?_ | refine MI.gv_dct ?_ | refine MI.gt_not ?_ | refine MI.gt_and ?_ | refine MI.gt_or ?_ | refine MI.gandt_one ?_ | refine MI.gandt_cons ?_ | refine MI.gort_one ?_ | refine MI.gort_cons ?_ | refine MI.gt_val ?_ | refine MI.gifs_nil ?_ | refine MI.gifs_cons ?_ | refine MI.gif_true ?_ | refine MI.gif_false ?_ | refine MI.gif_not ?_ | refine MI.gb_add ?_ | refine MI.gb_sub ?_ | refine MI.gm_lt ?_ | refine MI.gm_le ?_ | refine MI.gm_gt ?_ | refine MI.gm_ge ?_ | refine MI.gm_eq ?_ | refine MI.gm_ne ?_ | refine MI.gm_seq ?_ | refine MI.gtr_bl ?_ | refine MI.gtr_int ?_ | refine MI.gbi_int_int ?_ | refine MI.gbi_int_bool ?_ | refine MI.gbi_int_tup ?_ | refine MI.gbi_int_list ?_ | refine MI.gbi_int_dict ?_ | refine MI.gbi_tup_tup ?_ | refine MI.gbi_bl_tup ?_ | refine MI.gbi_bl_list ?_ | refine MI.gbi_bl_dict ?_ | refine MI.gbi_bl_bool ?_ | refine MI.gbi_len_tup ?_ | refine MI.gbi_int1 ?_ | refine MI.gbi_max ?_)
      | with_reducible refine MI.gv_tup ?_
      | with_reducible refine MI.gv_lst ?_
      | with_reducible refine MI.gb_mod (by first | decide | omega) ?_
      | with_reducible refine MI.gb_div (by first | decide | assumption) ?_
      | with_reducible refine MI.gb_mul (by first | decide | assumption) ?_
      | with_reducible refine MI.gb_pow (by decide) ?_
      | with_reducible refine MI.gif_dec_t (by first | assumption | omega | decide) ?_
      | with_reducible refine MI.gif_dec_f (by first | assumption | omega | decide) ?_
      | refine MI.gif_t rfl ?_
      | refine MI.gif_f rfl ?_
      | with_reducible refine MI.grg_of (by omega) (by omega) ?_
      | refine MI.gx_of rfl ?_
      | refine MI.gbi_of rfl ?_
      | refine ⟨_, rfl, ?_⟩
      | refine ⟨_, _, rfl, rfl, ?_⟩
      | refine MI.glc_next rfl ?_
      | refine MI.glc_end rfl ?_
      | refine MI.glf_next rfl ?_
      | refine MI.glf_end rfl ?_
      | refine ⟨Nat.le_of_ble_eq_true rfl, ?_⟩)
    refine p_five d6 (by omega) fun st6 d7 f7 => ?_
    repeat (first
      | with_reducible (first | refine MI.gss_cons ?_ | refine MI.gss_nil ?_ | refine MI.gn_next ?_ | refine MI.gn_ret ?_ | refine MI.gn_brk ?_ | refine MI.gn_cont ?_ | refine MI.gk_next ?_ | refine MI.gk_cont ?_ | refine MI.gk_brk ?_ | refine MI.gk_ret ?_ | refine MI.gf_ret ?_ | refine MI.gf_next ?_ | refine MI.gs_asg ?_ | refine MI.gs_asgT ?_ | refine MI.gs_par ?_ | refine MI.gs_put ?_ | refine MI.gs_if ?_ | refine MI.gs_ret ?_ | refine MI.gs_retN ?_ | refine MI.gs_expr ?_ | refine MI.gs_pass ?_ | refine MI.gs_brk ?_ | refine MI.gs_cont ?_ | refine MI.gs_while ?_ | refine MI.gs_for ?_ | refine MI.ge_of ?_ | refine MI.ga_val ?_ | refine MI.ga_new ?_ | refine MI.gl_nil ?_ | refine MI.gl_cons ?_ | refine MI.gr_nil ?_ | refine MI.gr_cons ?_ | refine MI.gi_rng ?_ | refine MI.gi_of ?_ | refine MI.gv_name ?_ | refine MI.gv_int ?_ | refine MI.gv_bl ?_ | refine MI.gv_str ?_ | refine MI.gv_non ?_ | refine MI.gv_ty ?_ | refine MI.gv_glob ?_ | refine MI.gv_bin ?_ | refine MI.gv_neg ?_ | refine MI.gv_not ?_ | refine MI.gv_and ?_ | refine MI.gv_or ?_ | refine MI.gand_one ?_ | refine MI.gand_cons ?_ | refine MI.gor_one ?_ | refine MI.gor_cons ?_ | refine MI.gv_cmp ?_ | refine MI.gv_chain ?_ | refine MI.gv_ife ?_ | refine MI.gv_idx ?_ | refine MI.gv_slice ?_ | refine MI.go_none ?_ | refine MI.go_some ?_ | refine MI.gv_rev ?_ | refine MI.gv_call ?_ | refine MI.gv_callK ?_ | refine MI.gv_bi ?_ | refine MI.gv_comp ?_ | refine MI.gv_pop ?_ | refine MI.gv_append ?_ | refine MI.gv_dct ?_ | refine MI.gt_not ?_ | refine MI.gt_and ?_ | refine MI.gt_or ?_ | refine MI.gandt_one ?_ | refine MI.gandt_cons ?_ | refine MI.gort_one ?_ | refine MI.gort_cons ?_ | refine MI.gt_val ?_ | refine MI.gifs_nil ?_ | refine MI.gifs_cons ?_ | refine MI.gif_true ?_ | refine MI.gif_false ?_ | refine MI.gif_not ?_ | refine MI.gb_add ?_ | refine MI.gb_sub ?_ | refine MI.gm_lt ?_ | refine MI.gm_le ?_ | refine MI.gm_gt ?_ | refine MI.gm_ge ?_ | refine MI.gm_eq ?_ | refine MI.gm_ne ?_ | refine MI.gm_seq ?_ | refine MI.gtr_bl ?_ | refine MI.gtr_int ?_ | refine MI.gbi_int_int ?_ | refine MI.gbi_int_bool ?_ | refine MI.gbi_int_tup ?_ | refine MI.gbi_int_list ?_ | refine MI.gbi_int_dict ?_ | refine MI.gbi_tup_tup ?_ | refine MI.gbi_bl_tup ?_ | refine MI.gbi_bl_list ?_ | refine MI.gbi_bl_dict ?_ | refine MI.gbi_bl_bool ?_ | refine MI.gbi_len_tup ?_ | refine MI.gbi_int1 ?_ | refine MI.gbi_max ?_)
      | with_reducible refine MI.gv_tup ?_
      | with_reducible refine MI.gv_lst ?_
      | with_reducible refine MI.gb_mod (by first | decide | omega) ?_
      | with_reducible refine MI.gb_div (by first | decide | assumption) ?_
      | with_reducible refine MI.gb_mul (by first | decide | assumption) ?_
      | with_reducible refine MI.gb_pow (by decide) ?_
      | with_reducible refine MI.gif_dec_t (by first | assumption | omega | decide) ?_
      | with_reducible refine MI.gif_dec_f (by first | assumption | omega | decide) ?_
      | refine MI.gif_t rfl ?_
      | refine MI.gif_f rfl ?_
      | with_reducible refine MI.grg_of (by omega) (by omega) ?_
      | refine MI.gx_of rfl ?_
      | refine MI.gbi_of rfl ?_
      | refine ⟨_, rfl, ?_⟩
      | refine ⟨_, _, rfl, rfl, ?_⟩
      | refine MI.glc_next rfl ?_
      | refine MI.glc_end rfl ?_
      | refine MI.glf_next rfl ?_
      | refine MI.glf_end rfl ?_
      | refine ⟨Nat.le_of_ble_eq_true rfl, ?_⟩)
    exact fun _ => ⟨_, _, _, _, _, _, rfl, d7.mono (by omega)⟩
  · rintro env st h
    obtain ⟨z2, z3, z4, z5, z6, z7, rfl, d1⟩ := h trivial
    have su : Sz 4 ⟨1, 0, 0, 0, 1⟩ := ⟨⟨by decide, by decide, by decide, by decide⟩, by decide⟩
    have lu : Low ⟨1, 0, 0, 0, 1⟩ := .inr (.inl rfl)
    repeat (first
      | with_reducible (first | refine MI.gss_cons ?_ | refine MI.gss_nil ?_ | refine MI.gn_next ?_ | refine MI.gn_ret ?_ | refine MI.gn_brk ?_ | refine MI.gn_cont ?_ | refine MI.gk_next ?_ | refine MI.gk_cont ?_ | refine MI.gk_brk ?_ | refine MI.gk_ret ?_ | refine MI.gf_ret ?_ | refine MI.gf_next ?_ | refine MI.gs_asg ?_ | refine MI.gs_asgT ?_ | refine MI.gs_par ?_ | refine MI.gs_put ?_ | refine MI.gs_if ?_ | refine MI.gs_ret ?_ | refine MI.gs_retN ?_ | refine MI.gs_expr ?_ | refine MI.gs_pass ?_ | refine MI.gs_brk ?_ | refine MI.gs_cont ?_ | refine MI.gs_while ?_ | refine MI.gs_for ?_ | refine MI.ge_of ?_ | refine MI.ga_val ?_ | refine MI.ga_new ?_ | refine MI.gl_nil ?_ | refine MI.gl_cons ?_ | refine MI.gr_nil ?_ | refine MI.gr_cons ?_ | refine MI.gi_rng ?_ | refine MI.gi_of ?_ | refine MI.gv_name ?_ | refine MI.gv_int ?_ | refine MI.gv_bl ?_ | refine MI.gv_str ?_ | refine MI.gv_non ?_ | refine MI.gv_ty ?_ | refine MI.gv_glob ?_ | refine MI.gv_bin ?_ | refine MI.gv_neg ?_ | refine MI.gv_not ?_ | refine MI.gv_and ?_ | refine MI.gv_or ?_ | refine MI.gand_one ?_ | refine MI.gand_cons ?_ | refine MI.gor_one ?_ | refine MI.gor_cons ?_ | refine MI.gv_cmp ?_ | refine MI.gv_chain ?_ | refine MI.gv_ife ?_ | refine MI.gv_idx ?_ | refine MI.gv_slice ?_ | refine MI.go_none ?_ | refine MI.go_some ?_ | refine MI.gv_rev ?_ | refine MI.gv_call ?_ | refine MI.gv_callK ?_ | refine MI.gv_bi ?_ | refine MI.gv_comp ?_ | refine MI.gv_pop ?_ | refine MI.gv_append ?_ | refine MI.gv_dct ?_ | refine MI.gt_not ?_ | refine MI.gt_and ?_ | refine MI.gt_or ?_ | refine MI.gandt_one ?_ | refine MI.gandt_cons ?_ | refine MI.gort_one ?_ | refine MI.gort_cons ?_ | refine MI.gt_val ?_ | refine MI.gifs_nil ?_ | refine MI.gifs_cons ?_ | refine MI.gif_true ?_ | refine MI.gif_false ?_ | refine MI.gif_not ?_ | refine MI.gb_add ?_ | refine MI.gb_sub ?_ | refine MI.gm_lt ?_ | refine MI.gm_le ?_ | refine MI.gm_gt ?_ | refine MI.gm_ge ?_ | refine MI.gm_eq ?_ | refine MI.gm_ne ?_ | refine MI.gm_seq ?_ | refine MI.gtr_bl ?_ | refine MI.gtr_int ?_ | refine MI.gbi_int_int ?_ | refine MI.gbi_int_bool ?_ | refine MI.gbi_int_tup ?_ | refine MI.gbi_int_list ?_ | refine MI.gbi_int_dict ?_ | refine MI.gbi_tup_tup ?_ | refine MI.gbi_bl_tup ?_ | refine MI.gbi_bl_list ?_ | refine MI.gbi_bl_dict ?_ | refine MI.gbi_bl_bool ?_ | refine MI.gbi_len_tup ?_ | refine MI.gbi_int1 ?_ | refine MI.gbi_max ?_)
      | refine p_rplus (x := ⟨1, 0, 0, 0, 1⟩) (y := ⟨1, 0, 0, 0, 1⟩) lu lu su su (by decide) ?_
      | refine p_lowest (k := 1) rfl ?_
      | with_reducible refine MI.gv_tup ?_
      | with_reducible refine MI.gv_lst ?_
      | with_reducible refine MI.gb_mod (by first | decide | omega) ?_
      | with_reducible refine MI.gb_div (by first | decide | assumption) ?_
      | with_reducible refine MI.gb_mul (by first | decide | assumption) ?_
      | with_reducible refine MI.gb_pow (by decide) ?_
      | with_reducible refine MI.gif_dec_t (by first | assumption | omega | decide) ?_
      | with_reducible refine MI.gif_dec_f (by first | assumption | omega | decide) ?_
      | refine MI.gif_t rfl ?_
      | refine MI.gif_f rfl ?_
      | with_reducible refine MI.grg_of (by omega) (by omega) ?_
      | refine MI.gx_of rfl ?_
      | refine MI.gbi_of rfl ?_
      | refine ⟨_, rfl, ?_⟩
      | refine ⟨_, _, rfl, rfl, ?_⟩
      | refine MI.glc_next rfl ?_
      | refine MI.glc_end rfl ?_
      | refine MI.glf_next rfl ?_
      | refine MI.glf_end rfl ?_
      | refine ⟨Nat.le_of_ble_eq_true rfl, ?_⟩)
    show GC G _ 22 [.tup [rv (plusQ ⟨1, 0, 0, 0, 1⟩ ⟨1, 0, 0, 0, 1⟩), rv (lowQ 1 3 0 1 0)], .tup [rv ⟨0, 1, 0, -1, 0⟩, rv ⟨0, 2, 0, -1, 0⟩]] _ _
    rw [show plusQ ⟨1, 0, 0, 0, 1⟩ ⟨1, 0, 0, 0, 1⟩ = ⟨0, 1, 0, -1, 0⟩ from rfl, show lowQ 1 3 0 1 0 = ⟨0, 2, 0, -1, 0⟩ from rfl]
    refine s_same 2 (d := d + 5) (pl_list (by show 2 ≤ 1000; decide) fun v hv => ?_) ?_
    · rcases mem2 hv with rfl | rfl <;> exact pl_rv _
    repeat (first
      | with_reducible (first | refine MI.gss_cons ?_ | refine MI.gss_nil ?_ | refine MI.gn_next ?_ | refine MI.gn_ret ?_ | refine MI.gn_brk ?_ | refine MI.gn_cont ?_ | refine MI.gk_next ?_ | refine MI.gk_cont ?_ | refine MI.gk_brk ?_ | refine MI.gk_ret ?_ | refine MI.gf_ret ?_ | refine MI.gf_next ?_ | refine MI.gs_asg ?_ | refine MI.gs_asgT ?_ | refine MI.gs_par ?_ | refine MI.gs_put ?_ | refine MI.gs_if ?_ | refine MI.gs_ret ?_ | refine MI.gs_retN ?_ | refine MI.gs_expr ?_ | refine MI.gs_pass ?_ | refine MI.gs_brk ?_ | refine MI.gs_cont ?_ | refine MI.gs_while ?_ | refine MI.gs_for ?_ | refine MI.ge_of ?_ | refine MI.ga_val ?_ | refine MI.ga_new ?_ | refine MI.gl_nil ?_ | refine MI.gl_cons ?_ | refine MI.gr_nil ?_ | refine MI.gr_cons ?_ | refine MI.gi_rng ?_ | refine MI.gi_of ?_ | refine MI.gv_name ?_ | refine MI.gv_int ?_ | refine MI.gv_bl ?_ | refine MI.gv_str ?_ | refine MI.gv_non ?_ | refine MI.gv_ty ?_ | refine MI.gv_glob ?_ | refine MI.gv_bin ?_ | refine MI.gv_neg ?_ | refine MI.gv_not ?_ | refine MI.gv_and ?_ | refine MI.gv_or ?_ | refine MI.gand_one ?_ | refine MI.gand_cons ?_ | refine MI.gor_one ?_ | refine MI.gor_cons ?_ | refine MI.gv_cmp ?_ | refine MI.gv_chain ?_ | refine MI.gv_ife ?_ | refine MI.gv_idx ?_ | refine MI.gv_slice ?_ | refine MI.go_none ?_ | refine MI.go_some ?_ | refine MI.gv_rev ?_ | refine MI.gv_call ?_ | refine MI.gv_callK ?_ | refine MI.gv_bi ?_ | refine MI.gv_comp ?_ | refine MI.gv_pop ?_ | refine MI.gv_append ?_ | refine MI.gv_dct ?_ | refine MI.gt_not ?_ | refine MI.gt_and ?_ | refine MI.gt_or ?_ | refine MI.gandt_one ?_ | refine MI.gandt_cons ?_ | refine MI.gort_one ?_ | refine MI.gort_cons ?_ | refine MI.gt_val ?_ | refine MI.gifs_nil ?_ | refine MI.gifs_cons ?_ | refine MI.gif_true ?_ | refine MI.gif_false ?_ | refine MI.gif_not ?_ | refine MI.gb_add ?_ | refine MI.gb_sub ?_ | refine MI.gm_lt ?_ | refine MI.gm_le ?_ | refine MI.gm_gt ?_ | refine MI.gm_ge ?_ | refine MI.gm_eq ?_ | refine MI.gm_ne ?_ | refine MI.gm_seq ?_ | refine MI.gtr_bl ?_ | refine MI.gtr_int ?_ | refine MI.gbi_int_int ?_ | refine MI.gbi_int_bool ?_ | refine MI.gbi_int_tup ?_ | refine MI.gbi_int_list ?_ | refine MI.gbi_int_dict ?_ | refine MI.gbi_tup_tup ?_ | refine MI.gbi_bl_tup ?_ | refine MI.gbi_bl_list ?_ | refine MI.gbi_bl_dict ?_ | refine MI.gbi_bl_bool ?_ | refine MI.gbi_len_tup ?_ | refine MI.gbi_int1 ?_ | refine MI.gbi_max ?_)
      | with_reducible refine MI.gv_tup ?_
      | with_reducible refine MI.gv_lst ?_
      | with_reducible refine MI.gb_mod (by first | decide | omega) ?_
      | with_reducible refine MI.gb_div (by first | decide | assumption) ?_
      | with_reducible refine MI.gb_mul (by first | decide | assumption) ?_
      | with_reducible refine MI.gb_pow (by decide) ?_
      | with_reducible refine MI.gif_dec_t (by first | assumption | omega | decide) ?_
      | with_reducible refine MI.gif_dec_f (by first | assumption | omega | decide) ?_
      | refine MI.gif_t rfl ?_
      | refine MI.gif_f rfl ?_
      | with_reducible refine MI.grg_of (by omega) (by omega) ?_
      | refine MI.gx_of rfl ?_
      | refine MI.gbi_of rfl ?_
      | refine ⟨_, rfl, ?_⟩
      | refine ⟨_, _, rfl, rfl, ?_⟩
      | refine MI.glc_next rfl ?_
      | refine MI.glc_end rfl ?_
      | refine MI.glf_next rfl ?_
      | refine MI.glf_end rfl ?_
      | refine ⟨Nat.le_of_ble_eq_true rfl, ?_⟩)
    rfl
end
end K01
theorem K01.holds : PySem.Challenge.rw_wavewright_k01_whole_roots_by_polynomial.Holds :=
  K01.law_of 60 ⟨rfl, by decide, by decide⟩ fun ns hl => K01.l_law (d := 51) hl
end
theorem PySem.Challenge.cw_wavewright_k01_whole_roots_by_polynomial_holds : PySem.Challenge.rw_wavewright_k01_whole_roots_by_polynomial.Holds :=
  K01.holds
