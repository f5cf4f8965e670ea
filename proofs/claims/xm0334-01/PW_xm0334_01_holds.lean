import PyProof.Rows.All
import PyProof.P3Statements
import PyProof.TableCode
import Wide.All
import OpenK.KLine
import KE.KRevSl
import Wide.FinOn
import OpenK.TopRead
import Lean
import PySem.Challenge.RW_xm0334_01
set_option maxRecDepth 100000
set_option Elab.async false
set_option linter.unusedVariables false
set_option linter.unusedSimpArgs false
set_option genSizeOf false
set_option genSizeOfSpec false
set_option compiler.extract_closed false
open PySem
namespace Mine
section
abbrev Bi := Nat
noncomputable abbrev Bi.len : Bi := 0
noncomputable abbrev Bi.range : Bi := 1
noncomputable abbrev Bi.tuple : Bi := 2
noncomputable abbrev Bi.list : Bi := 3
noncomputable abbrev Bi.str : Bi := 4
abbrev Me := Nat
noncomputable abbrev Me.append : Me := 0
noncomputable abbrev Me.pop : Me := 1
noncomputable abbrev Me.get : Me := 2
noncomputable abbrev Me.setdefault : Me := 3
noncomputable abbrev Me.put : Me := 4
noncomputable abbrev Me.row : Me := 5
noncomputable abbrev Me.kind : Me := 6
noncomputable abbrev Me.kinds : Me := 7
abbrev Fn := Nat
noncomputable abbrev Fn.KindTable_init : Fn := 0
noncomputable abbrev Fn.KindTable_row : Fn := 1
noncomputable abbrev Fn.KindTable_put : Fn := 2
noncomputable abbrev Fn.inner_kinds : Fn := 3
noncomputable abbrev Fn.row_level : Fn := 4
noncomputable abbrev Fn.row_length : Fn := 5
noncomputable abbrev Fn.check_kind_row : Fn := 6
noncomputable abbrev Fn.check_named : Fn := 7
noncomputable abbrev Fn.check_args : Fn := 8
noncomputable abbrev Fn.may_stand : Fn := 9
noncomputable abbrev Fn.class_kind : Fn := 10
noncomputable abbrev Fn.prim_kind : Fn := 11
noncomputable abbrev Fn.array_kind : Fn := 12
noncomputable abbrev Fn.var_kind : Fn := 13
noncomputable abbrev Fn.mvar_kind : Fn := 14
noncomputable abbrev Fn.is_value : Fn := 15
noncomputable abbrev Fn.is_var : Fn := 16
noncomputable abbrev Fn.op_sort : Fn := 17
noncomputable abbrev Fn.TypeDef_init : Fn := 18
noncomputable abbrev Fn.MethodDef_init : Fn := 19
noncomputable abbrev Fn.Body_init : Fn := 20
noncomputable abbrev Fn.Store_init : Fn := 21
noncomputable abbrev Fn.plain_names : Fn := 22
noncomputable abbrev Fn.new_asm : Fn := 23
noncomputable abbrev Fn.usual_base : Fn := 24
noncomputable abbrev Fn.sort_flags : Fn := 25
noncomputable abbrev Fn.add_type : Fn := 26
noncomputable abbrev Fn.kept_flags : Fn := 27
noncomputable abbrev Fn.add_method : Fn := 28
noncomputable abbrev Fn.note_method : Fn := 29
noncomputable abbrev Fn.set_generic : Fn := 30
noncomputable abbrev Fn.set_body : Fn := 31
noncomputable abbrev Fn.is_virtual : Fn := 32
noncomputable abbrev Fn.Paths_init : Fn := 33
noncomputable abbrev Fn.Paths_kind : Fn := 34
noncomputable abbrev Fn.Paths_kinds : Fn := 35
noncomputable abbrev Fn.same_defs : Fn := 36
noncomputable abbrev Fn.asm_name : Fn := 37
noncomputable abbrev Fn.own_types : Fn := 38
noncomputable abbrev Fn.standing : Fn := 39
noncomputable abbrev Fn.type_path : Fn := 40
noncomputable abbrev Fn.learn_kind : Fn := 41
noncomputable abbrev Fn.path_parts : Fn := 42
noncomputable abbrev Fn.kind_path : Fn := 43
noncomputable abbrev Fn.method_path : Fn := 44
noncomputable abbrev Fn.method_name : Fn := 45
noncomputable abbrev Fn.field_path : Fn := 46
noncomputable abbrev Fn.member_name : Fn := 47
noncomputable abbrev Fn.bound_rows : Fn := 48
noncomputable abbrev Fn.type_told : Fn := 49
noncomputable abbrev Fn.field_told : Fn := 50
noncomputable abbrev Fn.method_told : Fn := 51
noncomputable abbrev Fn.body_told : Fn := 52
noncomputable abbrev Fn.clause_path : Fn := 53
noncomputable abbrev Fn.operand_path : Fn := 54
noncomputable abbrev Fn.law_draw : Fn := 55
noncomputable abbrev Fn.law_count : Fn := 56
noncomputable abbrev Fn.law_classes : Fn := 57
noncomputable abbrev Fn.law_class : Fn := 58
noncomputable abbrev Fn.law_term : Fn := 59
noncomputable abbrev Fn.law_row : Fn := 60
noncomputable abbrev Fn.law_described : Fn := 61
noncomputable abbrev Fn.law_other : Fn := 62
noncomputable abbrev Fn.law_elsewhere : Fn := 63
noncomputable abbrev Fn.law_margs : Fn := 64
noncomputable abbrev Fn.law_call : Fn := 65
noncomputable abbrev Fn.law_turn : Fn := 66
noncomputable abbrev Fn.law_changed : Fn := 67
noncomputable abbrev Fn.law_alike : Fn := 68
noncomputable abbrev Fn.law_kind : Fn := 69
noncomputable abbrev Fn.law_type : Fn := 70
noncomputable abbrev Fn.law_world : Fn := 71
noncomputable abbrev Fn.law_lay : Fn := 72
noncomputable abbrev Fn.law_ask : Fn := 73
noncomputable abbrev Fn.law : Fn := 74
abbrev Cl := Nat
noncomputable abbrev Cl.RuneError : Cl := 0
noncomputable abbrev Cl.BadImage : Cl := 1
noncomputable abbrev Cl.BadKind : Cl := 2
noncomputable abbrev Cl.KindTable : Cl := 3
noncomputable abbrev Cl.TypeDef : Cl := 4
noncomputable abbrev Cl.MethodDef : Cl := 5
noncomputable abbrev Cl.Body : Cl := 6
noncomputable abbrev Cl.Store : Cl := 7
noncomputable abbrev Cl.Paths : Cl := 8
abbrev At := Nat
noncomputable abbrev At.opens : At := 0
noncomputable abbrev At.weights : At := 1
noncomputable abbrev At.depths : At := 2
noncomputable abbrev At.index : At := 3
noncomputable abbrev At.rows : At := 4
noncomputable abbrev At.home : At := 5
noncomputable abbrev At.finaliser : At := 6
noncomputable abbrev At.events : At := 7
noncomputable abbrev At.props : At := 8
noncomputable abbrev At.impls : At := 9
noncomputable abbrev At.under : At := 10
noncomputable abbrev At.cctor : At := 11
noncomputable abbrev At.asm : At := 12
noncomputable abbrev At.methods : At := 13
noncomputable abbrev At.fields : At := 14
noncomputable abbrev At.bounds : At := 15
noncomputable abbrev At.variances : At := 16
noncomputable abbrev At.params : At := 17
noncomputable abbrev At.ifaces : At := 18
noncomputable abbrev At.base : At := 19
noncomputable abbrev At.flags : At := 20
noncomputable abbrev At.sort : At := 21
noncomputable abbrev At.name : At := 22
noncomputable abbrev At.tid : At := 23
noncomputable abbrev At.native : At := 24
noncomputable abbrev At.body : At := 25
noncomputable abbrev At.pflags : At := 26
noncomputable abbrev At.pnames : At := 27
noncomputable abbrev At.ret : At := 28
noncomputable abbrev At.gbounds : At := 29
noncomputable abbrev At.gnames : At := 30
noncomputable abbrev At.ngen : At := 31
noncomputable abbrev At.access : At := 32
noncomputable abbrev At.owner : At := 33
noncomputable abbrev At.mid : At := 34
noncomputable abbrev At.clauses : At := 35
noncomputable abbrev At.code : At := 36
noncomputable abbrev At.maxstack : At := 37
noncomputable abbrev At.locals_ : At := 38
noncomputable abbrev At.entry : At := 39
noncomputable abbrev At.asms : At := 40
noncomputable abbrev At.names : At := 41
noncomputable abbrev At.fields_ : At := 42
noncomputable abbrev At.types' : At := 43
noncomputable abbrev At.kt : At := 44
noncomputable abbrev At.known : At := 45
noncomputable abbrev At.places : At := 46
noncomputable abbrev At.store : At := 47
noncomputable abbrev At.kind : At := 48
noncomputable abbrev At.value : At := 49
abbrev Tb := Nat
noncomputable abbrev Tb.TID_PRIM : Tb := 0
noncomputable abbrev Tb.OP_SORT : Tb := 1
noncomputable def atNm : List String := ["opens", "weights", "depths", "index", "rows", "home", "finaliser", "events", "props", "impls", "under", "cctor", "asm", "methods", "fields", "bounds", "variances", "params", "ifaces", "base", "flags", "sort", "name", "tid", "native", "body", "pflags", "pnames", "ret", "gbounds", "gnames", "ngen", "access", "owner", "mid", "clauses", "code", "maxstack", "locals_", "entry", "asms", "names", "fields_", "types", "kt", "known", "places", "store", "kind", "value"]
noncomputable def At.nm (a : At) : String := atNm.getD a ""
noncomputable def Me.nm (a : Me) : String := ["append", "pop", "get", "setdefault", "put", "row", "kind", "kinds"].getD a ""
noncomputable def tbRows : List (List (Int × Int)) := [[(20, 0), (9, 1), (10, 2), (11, 3), (12, 4), (13, 5), (14, 6), (15, 7), (16, 8), (17, 9), (18, 10), (19, 11), (1, 12), (4, 13)],
 [(0, 0), (20, 0), (32, 1), (33, 2), (37, 0), (38, 0), (40, 9), (42, 0), (56, 5), (57, 5), (58, 5), (59, 5), (60, 5), (61, 5), (62, 5), (63, 5), (64, 5), (65, 5), (66, 5), (67, 5), (68, 5), (69, 6), (70, 0), (71, 0), (72, 0), (73, 0), (74, 0), (75, 0), (76, 0), (77, 0), (80, 0), (81, 0), (82, 0), (83, 0), (84, 0), (85, 0), (88, 0), (89, 0), (90, 0), (91, 0), (92, 0), (93, 0), (94, 0), (95, 0), (96, 0), (97, 0), (98, 0), (99, 0), (100, 0), (101, 0), (102, 0), (103, 0), (104, 0), (105, 0), (106, 0), (109, 0), (110, 0), (111, 9), (113, 7), (114, 10), (115, 9), (116, 7), (117, 7), (121, 7), (122, 0), (123, 8), (124, 8), (125, 8), (126, 8), (127, 8), (128, 8), (129, 7), (130, 0), (131, 0), (132, 0), (133, 0), (134, 0), (135, 0), (136, 0), (137, 0), (140, 7), (141, 7), (142, 0), (143, 7), (163, 7), (164, 7), (165, 7), (179, 0), (180, 0), (181, 0), (182, 0), (183, 0), (184, 0), (185, 0), (186, 0), (208, 11), (209, 0), (210, 0), (211, 0), (214, 0), (215, 0), (216, 0), (217, 0), (218, 0), (219, 0), (220, 0), (221, 5), (223, 0), (65025, 0), (65026, 0), (65027, 0), (65028, 0), (65029, 0), (65030, 9), (65031, 9), (65033, 3), (65034, 3), (65035, 3), (65036, 4), (65037, 4), (65038, 4), (65041, 0), (65045, 7), (65046, 7), (65050, 0), (65054, 0)]]
noncomputable def Tb.rows (t : Tb) : List (Int × Int) := tbRows.getD t []
noncomputable def clInit : List (Option Fn) := [none, none, none, some .KindTable_init, some .TypeDef_init, some .MethodDef_init, some .Body_init, some .Store_init, some .Paths_init]
noncomputable def Cl.init (c : Cl) : Option Fn := clInit.getD c none
noncomputable def clMeth : List (List (Option Fn)) := [[],
 [],
 [],
 [none, none, none, none, some .KindTable_put, some .KindTable_row, none, none],
 [],
 [],
 [],
 [],
 [none, none, none, none, none, none, some .Paths_kind, some .Paths_kinds]]
noncomputable def Cl.meth (c : Cl) (m : Me) : Option Fn := (clMeth.getD c []).getD m none
noncomputable abbrev nFn : Nat := 75
noncomputable abbrev nAt : Nat := 50
noncomputable abbrev nCl : Nat := 9
noncomputable abbrev nTb : Nat := 2
inductive V where
 | none
 | bool (b : Bool)
 | int (i : Int)
 | str (s : String)
 | tup (l : List V)
 | loc (n : Nat)
 | fn (f : Fn)
 | cls (c : Cl)
 | tbl (t : Tb)
 | bi (b : Bi)
 | rng (lo hi : Int)
 | rol (l : List V)
inductive O where
 | list (l : List V)
 | dict (kv : List (V × V))
 | inst (c : Cl) (fs : List (At × V))
abbrev St := List O
set_option genInjectivity false
set_option genCtorIdx false
inductive E where
 | const (v : V)
 | lv (i : Nat)
 | cv (i : Nat)
 | gv (v : V) (x : String)
 | bin (op : Operator) (a b : E)
 | not (a : E)
 | neg (a : E)
 | boo (isAnd : Bool) (l : E)
 | cmp (op : CmpOp) (a b : E)
 | ife (c a b : E)
 | tup (l : E)
 | list (l : E)
 | dict (l : E)
 | idx (a b : E)
 | upto (a b : E)
 | from' (a b : E)
 | all (a : E)
 | rev (a : E)
 | attr (a : E) (n : At)
 | call (f : E) (args : E)
 | meth (o : E) (m : Me) (args : E)
 | comp (elt it cond : E) (k : Nat) (cv : List String)
 | nil
 | cons (a b : E)
inductive S where
 | nil
 | expr (e : E) (k : S)
 | ret (e : E) (k : S)
 | raise (k : S)
 | set (i : Nat) (e : E) (k : S)
 | setT (is : List Nat) (e : E) (k : S)
 | setA (o : E) (n : At) (e : E) (k : S)
 | setI (o i e : E) (k : S)
 | aug (i : Nat) (op : Operator) (e : E) (k : S)
 | ite (c : E) (a b : S) (k : S)
 | for' (is : List Nat) (tup : Bool) (it : E) (body : S) (k : S)
 | while (c : E) (body : S) (k : S)
structure FnRec where
 np : Nat
 sl : List String
 body : S
set_option genInjectivity true
set_option genCtorIdx true
noncomputable abbrev lim : Nat := 100000
noncomputable abbrev big : Int := 1000000000000000
@[irreducible] noncomputable def fit (i : Int) : Prop := -big < i /\ i < big
inductive TrW (σ : St) : V -> Bool -> Prop
 | none : TrW σ .none false
 | bool (b : Bool) : TrW σ (.bool b) b
 | int {i : Int} {t : Bool} : decide (i ≠ 0) = t -> TrW σ (.int i) t
 | list {n : Nat} {l : List V} {t : Bool} : σ[n]? = some (.list l) -> (!l.isEmpty) = t -> TrW σ (.loc n) t
open Classical in
noncomputable def dget : List (V × V) -> V -> Option V
 | [], _ => none
 | (a, b) :: r, k => if a = k then some b else dget r k
open Classical in
noncomputable def dput : List (V × V) -> V -> V -> List (V × V)
 | [], k, v => [(k, v)]
 | (a, b) :: r, k, v => if a = k then (a, v) :: r else (a, b) :: dput r k v
noncomputable def dsd (kv : List (V × V)) (k d : V) : V × List (V × V) := match dget kv k with
 | some v => (v, kv)
 | none => (d, kv ++ [(k, d)])
noncomputable def fget : List (At × V) -> At -> Option V
 | [], _ => none
 | (a, b) :: r, k => if Nat.beq a k = true then some b else fget r k
noncomputable def fput : List (At × V) -> At -> V -> List (At × V)
 | [], k, v => [(k, v)]
 | (a, b) :: r, k, v => if Nat.beq a k = true then (a, v) :: r else (a, b) :: fput r k v
noncomputable def tget : List (Int × Int) -> Int -> Option Int
 | [], _ => none
 | (a, b) :: r, k => if a = k then some b else tget r k
noncomputable def pureN : Nat -> V -> Bool
 | _, .none => true
 | _, .int _ => true
 | _, .str _ => true
 | n + 1, .tup l => l.all (pureN n)
 | _, _ => false
noncomputable def kd : V -> Nat
 | .int _ => 1
 | .str _ => 2
 | .tup l => if l.all (pureN 4) then 3 else 0
 | _ => 0
@[irreducible] noncomputable def keyOk (kv : List (V × V)) (k : V) : Prop := kd k ≠ 0 /\ ∀ e ∈ kv, kd e.1 = kd k
noncomputable def dat (σ : St) : Nat -> V -> Option PyData
 | _, .none => some .none
 | _, .bool b => some (.bool b)
 | _, .int i => some (.int i)
 | _, .str s => some (.str (Str.ofString s))
 | n + 1, .tup l => (l.mapM (dat σ n)).map .tuple
 | n + 1, .loc k => match σ[k]? with
  | some (.list l) => (l.mapM (dat σ n)).map .list
  | _ => none
 | _, _ => none
noncomputable def intsL (lo : Int) : Nat -> List V
 | 0 => []
 | n + 1 => .int lo :: intsL (lo + 1) n
noncomputable def rngL (lo hi : Int) : List V := intsL lo (hi - lo).toNat
inductive SrcW (σ : St) : V -> List V -> Option Nat -> Prop
 | tup (l : List V) : SrcW σ (.tup l) l none
 | rol (l : List V) : SrcW σ (.rol l) l none
 | rng (a b : Int) : SrcW σ (.rng a b) (rngL a b) none
 | list {n : Nat} {l : List V} : σ[n]? = some (.list l) -> SrcW σ (.loc n) l (some n)
noncomputable def live (σ : St) (l : List V) : Option Nat -> Prop
 | none => True
 | some n => σ[n]? = some (.list l)
abbrev Fr := List (Option V)
abbrev Post := V -> St -> Prop
abbrev FnSem := Fn -> List V -> Post -> St -> Prop
abbrev Kt := Fr -> St -> List V -> Prop
abbrev Nt := Fr -> St -> Prop
inductive AddW (K : Kt) (ρ : Fr) (σ : St) : List V -> Prop
 | int {i j : Int} {vs : List V} : K ρ σ (.int (i + j) :: vs) -> AddW K ρ σ (.int j :: .int i :: vs)
 | cat {x y vs : List V} : Nat.ble (x ++ y).length lim = true -> K ρ σ (.tup (x ++ y) :: vs) -> AddW K ρ σ (.tup y :: .tup x :: vs)
 | catL {m n : Nat} {x y vs : List V} : σ[m]? = some (.list x) -> σ[n]? = some (.list y) -> Nat.ble (x ++ y).length lim = true -> K ρ (σ ++ [.list (x ++ y)]) (.loc σ.length :: vs) -> AddW K ρ σ (.loc n :: .loc m :: vs)
inductive MulW (K : Kt) (ρ : Fr) (σ : St) : List V -> Prop
 | int {i j : Int} {vs : List V} : fit i -> K ρ σ (.int (i * j) :: vs) -> MulW K ρ σ (.int j :: .int i :: vs)
 | list {m n : Nat} {i : Int} {x vs : List V} : σ[m]? = some (.list x) -> i = (n : Int) -> Nat.ble n lim = true -> Nat.ble x.length 10 = true -> Nat.ble (List.replicate n x).flatten.length lim = true ->
   K ρ (σ ++ [.list (List.replicate n x).flatten]) (.loc σ.length :: vs) -> MulW K ρ σ (.int i :: .loc m :: vs)
 | tup {v : V} {x vs : List V} : K ρ σ (.tup [] :: vs) -> MulW K ρ σ (.int 0 :: .tup (v :: x) :: vs)
inductive BinW : Operator -> Kt -> Fr -> St -> List V -> Prop
 | add {K : Kt} {ρ : Fr} {σ : St} {vs : List V} : AddW K ρ σ vs -> BinW .Add K ρ σ vs
 | mul {K : Kt} {ρ : Fr} {σ : St} {vs : List V} : MulW K ρ σ vs -> BinW .Mult K ρ σ vs
 | sub {K : Kt} {ρ : Fr} {σ : St} {i j : Int} {vs : List V} : K ρ σ (.int (i - j) :: vs) -> BinW .Sub K ρ σ (.int j :: .int i :: vs)
 | mod {K : Kt} {ρ : Fr} {σ : St} {i j : Int} {vs : List V} : decide (0 < j) = true -> K ρ σ (.int (i % j) :: vs) -> BinW .Mod K ρ σ (.int j :: .int i :: vs)
 | div {K : Kt} {ρ : Fr} {σ : St} {i j : Int} {vs : List V} : decide (0 < j) = true -> decide (j < 1000000) = true -> K ρ σ (.int (i / j) :: vs) -> BinW .FloorDiv K ρ σ (.int j :: .int i :: vs)
 | and {K : Kt} {ρ : Fr} {σ : St} {i j r : Nat} {a b : Int} {vs : List V} : a = (i : Int) -> b = (j : Int) -> i &&& j = r -> K ρ σ (.int (r : Int) :: vs) -> BinW .BitAnd K ρ σ (.int b :: .int a :: vs)
inductive CmpW : CmpOp -> Kt -> Fr -> St -> List V -> Prop
 | lt {K : Kt} {ρ : Fr} {σ : St} {i j : Int} {t : Bool} {vs : List V} : decide (i < j) = t -> K ρ σ (.bool t :: vs) -> CmpW .Lt K ρ σ (.int j :: .int i :: vs)
 | le {K : Kt} {ρ : Fr} {σ : St} {i j : Int} {t : Bool} {vs : List V} : decide (i ≤ j) = t -> K ρ σ (.bool t :: vs) -> CmpW .LtE K ρ σ (.int j :: .int i :: vs)
 | gt {K : Kt} {ρ : Fr} {σ : St} {i j : Int} {t : Bool} {vs : List V} : decide (j < i) = t -> K ρ σ (.bool t :: vs) -> CmpW .Gt K ρ σ (.int j :: .int i :: vs)
 | ge {K : Kt} {ρ : Fr} {σ : St} {i j : Int} {t : Bool} {vs : List V} : decide (j ≤ i) = t -> K ρ σ (.bool t :: vs) -> CmpW .GtE K ρ σ (.int j :: .int i :: vs)
 | eqI {K : Kt} {ρ : Fr} {σ : St} {i j : Int} {t : Bool} {vs : List V} : decide (i = j) = t -> K ρ σ (.bool t :: vs) -> CmpW .Eq K ρ σ (.int j :: .int i :: vs)
 | neI {K : Kt} {ρ : Fr} {σ : St} {i j : Int} {t : Bool} {vs : List V} : decide (i = j) = t -> K ρ σ (.bool (!t) :: vs) -> CmpW .NotEq K ρ σ (.int j :: .int i :: vs)
 | eqS {K : Kt} {ρ : Fr} {σ : St} {x y : String} {t : Bool} {vs : List V} : (x == y) = t -> K ρ σ (.bool t :: vs) -> CmpW .Eq K ρ σ (.str y :: .str x :: vs)
 | neS {K : Kt} {ρ : Fr} {σ : St} {x y : String} {t : Bool} {vs : List V} : (x == y) = t -> K ρ σ (.bool (!t) :: vs) -> CmpW .NotEq K ρ σ (.str y :: .str x :: vs)
 | eq {K : Kt} {ρ : Fr} {σ : St} {a b : V} {x y : PyData} {t : Bool} {vs : List V} : dat σ 40 a = some x -> dat σ 40 b = some y -> PyData.eqv x y = t -> K ρ σ (.bool t :: vs) -> CmpW .Eq K ρ σ (b :: a :: vs)
 | ne {K : Kt} {ρ : Fr} {σ : St} {a b : V} {x y : PyData} {t : Bool} {vs : List V} : dat σ 40 a = some x -> dat σ 40 b = some y -> PyData.eqv x y = t -> K ρ σ (.bool (!t) :: vs) -> CmpW .NotEq K ρ σ (b :: a :: vs)
 | isN {K : Kt} {ρ : Fr} {σ : St} {vs : List V} : K ρ σ (.bool true :: vs) -> CmpW .Is K ρ σ (.none :: .none :: vs)
 | isL {K : Kt} {ρ : Fr} {σ : St} {n : Nat} {vs : List V} : K ρ σ (.bool false :: vs) -> CmpW .Is K ρ σ (.none :: .loc n :: vs)
 | isnN {K : Kt} {ρ : Fr} {σ : St} {vs : List V} : K ρ σ (.bool false :: vs) -> CmpW .IsNot K ρ σ (.none :: .none :: vs)
 | isnL {K : Kt} {ρ : Fr} {σ : St} {n : Nat} {vs : List V} : K ρ σ (.bool true :: vs) -> CmpW .IsNot K ρ σ (.none :: .loc n :: vs)
 | inT {K : Kt} {ρ : Fr} {σ : St} {k : Int} {t : Tb} {r : Bool} {vs : List V} : (tget t.rows k).isSome = r -> K ρ σ (.bool r :: vs) -> CmpW .In K ρ σ (.tbl t :: .int k :: vs)
 | inD {K : Kt} {ρ : Fr} {σ : St} {k : V} {n : Nat} {kv : List (V × V)} {t : Bool} {vs : List V} : σ[n]? = some (.dict kv) -> keyOk kv k -> (dget kv k).isSome = t -> K ρ σ (.bool t :: vs) -> CmpW .In K ρ σ (.loc n :: k :: vs)
 | ninD {K : Kt} {ρ : Fr} {σ : St} {k : V} {n : Nat} {kv : List (V × V)} {t : Bool} {vs : List V} : σ[n]? = some (.dict kv) -> keyOk kv k -> (dget kv k).isSome = t -> K ρ σ (.bool (!t) :: vs) -> CmpW .NotIn K ρ σ (.loc n :: k :: vs)
noncomputable def strAt (s : String) (i : Nat) : Option String := (s.toList[i]?).map fun c => String.ofList [c]
inductive IdxO : O -> V -> V -> Prop
 | last {l : List V} {v : V} : l.getLast? = some v -> IdxO (.list l) (.int (-1)) v
 | list {l : List V} {i : Int} {n : Nat} {v : V} : i = (n : Int) -> l[n]? = some v -> IdxO (.list l) (.int i) v
 | dict {kv : List (V × V)} {k v : V} : keyOk kv k -> dget kv k = some v -> IdxO (.dict kv) k v
inductive IdxW (K : Kt) (ρ : Fr) (σ : St) : List V -> Prop
 | tup {l vs : List V} {i : Int} {n : Nat} {v : V} : i = (n : Int) -> l[n]? = some v -> K ρ σ (v :: vs) -> IdxW K ρ σ (.int i :: .tup l :: vs)
 | str {s t : String} {i : Int} {n : Nat} {vs : List V} : i = (n : Int) -> Nat.ble n 1000000 = true -> strAt s n = some t -> K ρ σ (.str t :: vs) -> IdxW K ρ σ (.int i :: .str s :: vs)
 | loc {n : Nat} {o : O} {k v : V} {vs : List V} : σ[n]? = some o -> IdxO o k v -> K ρ σ (v :: vs) -> IdxW K ρ σ (k :: .loc n :: vs)
inductive SliceW (f : List V -> List V) (K : Kt) (ρ : Fr) (σ : St) : List V -> Prop
 | tup {l vs : List V} : K ρ σ (.tup (f l) :: vs) -> SliceW f K ρ σ (.tup l :: vs)
 | rol {l vs : List V} : K ρ (σ ++ [.list (f l)]) (.loc σ.length :: vs) -> SliceW f K ρ σ (.rol l :: vs)
 | list {n : Nat} {l vs : List V} : σ[n]? = some (.list l) -> K ρ (σ ++ [.list (f l)]) (.loc σ.length :: vs) -> SliceW f K ρ σ (.loc n :: vs)
inductive SlicN (f : Nat -> List V -> List V) (K : Kt) (ρ : Fr) (σ : St) : List V -> Prop
 | mk {i : Int} {n : Nat} {vs : List V} : i = (n : Int) -> SliceW (f n) K ρ σ vs -> SlicN f K ρ σ (.int i :: vs)
inductive AttrW (n : At) (K : Kt) (ρ : Fr) (σ : St) : List V -> Prop
 | mk {k : Nat} {c : Cl} {fs : List (At × V)} {v : V} {vs : List V} : σ[k]? = some (.inst c fs) -> fget fs n = some v -> (Nat.beq c Cl.Paths && Nat.beq n At.kind) = false -> K ρ σ (v :: vs) -> AttrW n K ρ σ (.loc k :: vs)
inductive LenO : O -> Nat -> Prop
 | list {l : List V} : LenO (.list l) l.length
 | dict {kv : List (V × V)} : LenO (.dict kv) kv.length
inductive BiW (K : Kt) (ρ : Fr) (σ : St) (vs : List V) : Bi -> List V -> Prop
 | lenT {l : List V} : K ρ σ (.int l.length :: vs) -> BiW K ρ σ vs .len [.tup l]
 | len {n k : Nat} {o : O} : σ[n]? = some o -> LenO o k -> K ρ σ (.int k :: vs) -> BiW K ρ σ vs .len [.loc n]
 | rng1 {n : Int} : fit n -> K ρ σ (.rng 0 n :: vs) -> BiW K ρ σ vs .range [.int n]
 | rng2 {m n : Int} : fit m -> fit n -> K ρ σ (.rng m n :: vs) -> BiW K ρ σ vs .range [.int m, .int n]
 | tupT {l : List V} : K ρ σ (.tup l :: vs) -> BiW K ρ σ vs .tuple [.tup l]
 | tupL {n : Nat} {l : List V} : σ[n]? = some (.list l) -> K ρ σ (.tup l :: vs) -> BiW K ρ σ vs .tuple [.loc n]
 | listR {a b : Int} : Nat.ble (rngL a b).length lim = true -> K ρ (σ ++ [.list (rngL a b)]) (.loc σ.length :: vs) -> BiW K ρ σ vs .list [.rng a b]
inductive CallW (F : FnSem) (K : Kt) (ws : List V) (ρ : Fr) (σ : St) : List V -> Prop
 | fn {f : Fn} {vs : List V} : F f ws (fun v σ' => K ρ σ' (v :: vs)) σ -> CallW F K ws ρ σ (.fn f :: vs)
 | cls {c : Cl} {f : Fn} {vs : List V} : c.init = some f -> F f (.loc σ.length :: ws) (fun r σ' => r = .none /\ K ρ σ' (.loc σ.length :: vs)) (σ ++ [.inst c []]) -> CallW F K ws ρ σ (.cls c :: vs)
 | bi {b : Bi} {vs : List V} : BiW K ρ σ vs b ws -> CallW F K ws ρ σ (.bi b :: vs)
inductive MOk : Me -> Kt -> Fr -> St -> List V -> Prop
 | append {K : Kt} {ρ : Fr} {σ : St} {n : Nat} {l vs : List V} : σ[n]? = some (.list l) -> K ρ σ (.loc n :: vs) -> MOk .append K ρ σ (.loc n :: vs)
 | pop {K : Kt} {ρ : Fr} {σ : St} {n : Nat} {l vs : List V} : σ[n]? = some (.list l) -> K ρ σ (.loc n :: vs) -> MOk .pop K ρ σ (.loc n :: vs)
 | get {K : Kt} {ρ : Fr} {σ : St} {n : Nat} {kv : List (V × V)} {vs : List V} : σ[n]? = some (.dict kv) -> K ρ σ (.loc n :: vs) -> MOk .get K ρ σ (.loc n :: vs)
 | setdefault {K : Kt} {ρ : Fr} {σ : St} {n : Nat} {kv : List (V × V)} {vs : List V} : σ[n]? = some (.dict kv) -> K ρ σ (.loc n :: vs) -> MOk .setdefault K ρ σ (.loc n :: vs)
 | tbl {K : Kt} {ρ : Fr} {σ : St} {t : Tb} {vs : List V} : K ρ σ (.tbl t :: vs) -> MOk .get K ρ σ (.tbl t :: vs)
 | inst {K : Kt} {ρ : Fr} {σ : St} {n : Nat} {c : Cl} {fs : List (At × V)} {m : Me} {f : Fn} {vs : List V} : σ[n]? = some (.inst c fs) -> c.meth m = some f -> (fs.all fun e => !(At.nm e.1 == m.nm)) = true -> K ρ σ (.loc n :: vs) -> MOk m K ρ σ (.loc n :: vs)
inductive MethW (F : FnSem) (K : Kt) (ρ : Fr) (σ : St) (vs : List V) : V -> Me -> List V -> Prop
 | append {n : Nat} {l : List V} {x : V} : σ[n]? = some (.list l) -> Nat.blt l.length lim = true -> K ρ (σ.set n (.list (l ++ [x]))) (.none :: vs) -> MethW F K ρ σ vs (.loc n) .append [x]
 | pop {n : Nat} {l : List V} {v : V} : σ[n]? = some (.list l) -> l.getLast? = some v -> K ρ (σ.set n (.list l.dropLast)) (v :: vs) -> MethW F K ρ σ vs (.loc n) .pop []
 | get {n : Nat} {kv : List (V × V)} {k d v : V} : σ[n]? = some (.dict kv) -> keyOk kv k -> (dget kv k).getD d = v -> K ρ σ (v :: vs) -> MethW F K ρ σ vs (.loc n) .get [k, d]
 | setdefault {n : Nat} {kv kv' : List (V × V)} {k d v : V} : σ[n]? = some (.dict kv) -> keyOk kv k -> Nat.blt kv.length lim = true -> dsd kv k d = (v, kv') -> K ρ (σ.set n (.dict kv')) (v :: vs) -> MethW F K ρ σ vs (.loc n) .setdefault [k, d]
 | tget {t : Tb} {k d r : Int} : (tget t.rows k).getD d = r -> K ρ σ (.int r :: vs) -> MethW F K ρ σ vs (.tbl t) .get [.int k, .int d]
 | inst {n : Nat} {c : Cl} {fs : List (At × V)} {m : Me} {f : Fn} {ws : List V} : σ[n]? = some (.inst c fs) -> c.meth m = some f -> F f (.loc n :: ws) (fun v σ' => K ρ σ' (v :: vs)) σ -> MethW F K ρ σ vs (.loc n) m ws
inductive SetAW (n : At) (N : Nt) (ρ : Fr) (σ : St) : List V -> Prop
 | mk {k : Nat} {c : Cl} {fs fs' : List (At × V)} {v : V} {vs : List V} : σ[k]? = some (.inst c fs) -> Nat.blt fs.length 60 = true -> fput fs n v = fs' -> (Nat.beq c Cl.Paths && Nat.beq n At.kind) = false -> N ρ (σ.set k (.inst c fs')) -> SetAW n N ρ σ (.loc k :: v :: vs)
inductive SetO (v : V) : O -> V -> O -> Prop
 | list {l : List V} {i : Int} {n : Nat} : i = (n : Int) -> Nat.blt n l.length = true -> SetO v (.list l) (.int i) (.list (l.set n v))
 | dict {kv kv' : List (V × V)} {k : V} : keyOk kv k -> Nat.blt kv.length lim = true -> dput kv k v = kv' -> SetO v (.dict kv) k (.dict kv')
inductive SetIW (N : Nt) (ρ : Fr) (σ : St) : List V -> Prop
 | mk {n : Nat} {o o' : O} {k v : V} {vs : List V} : σ[n]? = some o -> SetO v o k o' -> N ρ (σ.set n o') -> SetIW N ρ σ (k :: .loc n :: v :: vs)
inductive IfW (A B : Kt) (ρ : Fr) (σ : St) : List V -> Prop
 | tt {vs : List V} : A ρ σ vs -> IfW A B ρ σ (.bool true :: vs)
 | ff {vs : List V} : B ρ σ vs -> IfW A B ρ σ (.bool false :: vs)
 | t {v : V} {vs : List V} : TrW σ v true -> A ρ σ vs -> IfW A B ρ σ (v :: vs)
 | f {v : V} {vs : List V} : TrW σ v false -> B ρ σ vs -> IfW A B ρ σ (v :: vs)
@[reducible] noncomputable def pop1 (vs : List V) (f : V -> List V -> Prop) : Prop := match vs with
 | a :: r => f a r
 | [] => False
noncomputable def kAnd (A K : Kt) : Kt := fun ρ σ vs => pop1 vs fun v _ => IfW A (fun ρ σ r => K ρ σ (v :: r)) ρ σ vs
noncomputable def kOr (A K : Kt) : Kt := fun ρ σ vs => pop1 vs fun v _ => IfW (fun ρ σ r => K ρ σ (v :: r)) A ρ σ vs
noncomputable def compW (lv : St -> Prop) (tg : V -> Option (List V)) (cond : List V -> Post -> St -> Prop) (elt : List V -> Post -> St -> Prop) :
  List V -> List V -> (List V -> St -> Prop) -> St -> Prop
 | [], acc, Q, σ => lv σ /\ Q acc σ
 | x :: r, acc, Q, σ => lv σ /\ ∃ κ, tg x = some κ /\ cond κ (fun c σ1 => IfW (fun _ σ1 _ => elt κ (fun v σ2 => compW lv tg cond elt r (acc ++ [v]) Q σ2) σ1) (fun _ σ1 _ => compW lv tg cond elt r acc Q σ1) [] σ1 [c]) σ
noncomputable def tgt (k : Nat) (v : V) : Option (List V) := match k, v with
 | 0, v => some [v]
 | k + 1, .tup l => if l.length = k + 1 then some l else none
 | _, _ => none
noncomputable def getC (o : Option V) (f : V -> Prop) : Prop := match o with
 | some v => f v
 | none => False
noncomputable def getS (o : Option (Option V)) (f : V -> Prop) : Prop := match o with
 | some o => getC o f
 | none => False
noncomputable def setK (v : V) : Fr -> Nat -> (Fr -> Prop) -> Prop
 | _ :: r, 0, f => f (some v :: r)
 | a :: r, i + 1, f => setK v r i fun r' => f (a :: r')
 | [], _, _ => False
noncomputable def setKs : List Nat -> List V -> Fr -> (Fr -> Prop) -> Prop
 | [], [], ρ, f => f ρ
 | i :: is, v :: vs, ρ, f => setK v ρ i fun ρ' => setKs is vs ρ' f
 | _, _, _, _ => False
noncomputable def isNilE : E -> Bool
 | .nil => true
 | _ => false
@[reducible] noncomputable def kPush (v : V) (K : Kt) : Kt := fun ρ σ vs => K ρ σ (v :: vs)
noncomputable def kTup (K : Kt) : List V -> Kt := fun ws ρ σ vs => K ρ σ (.tup ws :: vs)
noncomputable def kList (K : Kt) : List V -> Kt := fun ws ρ σ vs => K ρ (σ ++ [.list ws]) (.loc σ.length :: vs)
noncomputable def kDict (K : Kt) : List (V × V) -> Kt := fun kv ρ σ vs => K ρ (σ ++ [.dict kv]) (.loc σ.length :: vs)
noncomputable def kMeth (F : FnSem) (m : Me) (K : Kt) : List V -> Kt := fun ws ρ σ vs => pop1 vs fun o vs => MethW F K ρ σ vs o m ws
@[reducible] noncomputable def kN (N : Nt) : Kt := fun ρ σ _ => N ρ σ
@[reducible] noncomputable def kOne (Q : Post) : Kt := fun _ σ vs => pop1 vs fun v _ => Q v σ
noncomputable def kL (K : List V -> Kt) : List V -> Kt := fun ws ρ σ vs => pop1 vs fun v vs => K (v :: ws) ρ σ vs
inductive DictW (K : List (V × V) -> Kt) (kv : List (V × V)) (ρ : Fr) (σ : St) : List V -> Prop
 | mk {v k : V} {vs : List V} : keyOk kv k -> dget kv k = none -> K ((k, v) :: kv) ρ σ vs -> DictW K kv ρ σ (v :: k :: vs)
inductive NegW (K : Kt) (ρ : Fr) (σ : St) : List V -> Prop
 | mk {i : Int} {vs : List V} : K ρ σ (.int (-i) :: vs) -> NegW K ρ σ (.int i :: vs)
inductive CompW (tg : V -> Option (List V)) (cond : List V -> Post -> St -> Prop) (elt : List V -> Post -> St -> Prop) (K : Kt) (ρ : Fr) (σ : St) : List V -> Prop
 | mk {v : V} {l vs : List V} {ℓ : Option Nat} : SrcW σ v l ℓ -> Nat.ble l.length lim = true -> compW (fun σ' => live σ' l ℓ) tg cond elt l [] (fun ws σ' => K ρ (σ' ++ [.list ws]) (.loc σ'.length :: vs)) σ -> CompW tg cond elt K ρ σ (v :: vs)
mutual
noncomputable def wpE (F : FnSem) : E -> List V -> Kt -> Kt
 | .const v, _, K => kPush v K
 | .lv i, _, K => fun ρ σ vs => getS ρ[i]? fun v => K ρ σ (v :: vs)
 | .cv i, κ, K => fun ρ σ vs => getC κ[i]? fun v => K ρ σ (v :: vs)
 | .gv v _, _, K => kPush v K
 | .bin op a b, κ, K => wpE F a κ (wpE F b κ (BinW op K))
 | .not a, κ, K => wpE F a κ (IfW (kPush (.bool false) K) (kPush (.bool true) K))
 | .neg a, κ, K => wpE F a κ (NegW K)
 | .boo t l, κ, K => wpB F l κ t K
 | .cmp op a b, κ, K => wpE F a κ (wpE F b κ (CmpW op K))
 | .ife c a b, κ, K => wpE F c κ (IfW (wpE F a κ K) (wpE F b κ K))
 | .tup l, κ, K => wpL F l κ (kTup K)
 | .list l, κ, K => wpL F l κ (kList K)
 | .dict l, κ, K => wpD F l κ (kDict K)
 | .idx a b, κ, K => wpE F a κ (wpE F b κ (IdxW K))
 | .upto a b, κ, K => wpE F a κ (wpE F b κ (SlicN List.take K))
 | .from' a b, κ, K => wpE F a κ (wpE F b κ (SlicN List.drop K))
 | .all a, κ, K => wpE F a κ (SliceW (fun l => l) K)
 | .rev a, κ, K => wpE F a κ (SliceW List.reverse K)
 | .attr a n, κ, K => wpE F a κ (AttrW n K)
 | .call f args, κ, K => wpE F f κ (wpL F args κ (CallW F K))
 | .meth o m args, κ, K => wpE F o κ (MOk m (wpL F args κ (kMeth F m K)))
 | .comp elt it cnd k _, κ, K => wpE F it κ fun ρ => CompW (tgt k) (fun κ' Q' σ' => bif isNilE cnd then Q' (.bool true) σ' else wpE F cnd κ' (kOne Q') ρ σ' []) (fun κ' Q' σ' => wpE F elt κ' (kOne Q') ρ σ' []) K ρ
 | .nil, _, _ => fun _ _ _ => False
 | .cons _ _, _, _ => fun _ _ _ => False
noncomputable def wpL (F : FnSem) : E -> List V -> (List V -> Kt) -> Kt
 | .nil, _, K => K []
 | .cons a b, κ, K => wpE F a κ (wpL F b κ (kL K))
 | _, _, _ => fun _ _ _ => False
noncomputable def wpB (F : FnSem) : E -> List V -> Bool -> Kt -> Kt
 | .cons a b, κ, t, K => bif isNilE b then wpE F a κ K else wpE F a κ (bif t then kAnd (wpB F b κ t K) K else kOr (wpB F b κ t K) K)
 | _, _, _, _ => fun _ _ _ => False
noncomputable def wpD (F : FnSem) : E -> List V -> (List (V × V) -> Kt) -> Kt
 | .nil, _, K => K []
 | .cons a (.cons c d), κ, K => wpE F a κ (wpE F c κ (wpD F d κ (DictW K)))
 | _, _, _ => fun _ _ _ => False
end
noncomputable def ForTg (v : V) (f : List V -> Prop) : Bool -> Prop
 | true => match v with
  | .tup vs => f vs
  | _ => False
 | false => f [v]
noncomputable def forW (lv : St -> Prop) (tup : Bool) (is : List Nat) (body : Nt -> Nt) : List V -> Nt -> Nt
 | [], N => fun ρ σ => lv σ /\ N ρ σ
 | x :: r, N => fun ρ σ => lv σ /\ ForTg x (fun vs => setKs is vs ρ fun ρ1 => body (forW lv tup is body r N) ρ1 σ) tup
inductive ForW (is : List Nat) (tup : Bool) (body : Nt -> Nt) (N : Nt) (ρ : Fr) (σ : St) : List V -> Prop
 | mk {v : V} {l vs : List V} {ℓ : Option Nat} : SrcW σ v l ℓ -> forW (fun σ' => live σ' l ℓ) tup is body l N ρ σ -> ForW is tup body N ρ σ (v :: vs)
noncomputable def whileW (test : Kt -> Nt) (body : Nt -> Nt) (N : Nt) : Nt := fun ρ σ =>
 ∃ I : Nat -> Nt, (∃ n, I n ρ σ) /\ ∀ n ρ σ, I n ρ σ -> test (IfW (kN (body fun ρ σ => ∃ m, m < n /\ I m ρ σ)) (kN N)) ρ σ
noncomputable def kSet (i : Nat) (N : Nt) : Kt := fun ρ σ vs => pop1 vs fun v _ => setK v ρ i fun ρ' => N ρ' σ
inductive AugW (i : Nat) (N : Nt) (ρ : Fr) (σ : St) : List V -> Prop
 | mk {a b : Int} {vs : List V} : setK (.int (a + b)) ρ i (fun ρ' => N ρ' σ) -> AugW i N ρ σ (.int b :: .int a :: vs)
inductive SetTW (is : List Nat) (N : Nt) (ρ : Fr) (σ : St) : List V -> Prop
 | mk {l vs : List V} : setKs is l ρ (fun ρ' => N ρ' σ) -> SetTW is N ρ σ (.tup l :: vs)
noncomputable def wpS (F : FnSem) (R : Post) : S -> Nt -> Nt
 | .nil, N => N
 | .expr e k, N => fun ρ σ => wpE F e [] (kN (wpS F R k N)) ρ σ []
 | .ret e _, _ => fun ρ σ => wpE F e [] (kOne R) ρ σ []
 | .raise _, _ => fun _ _ => False
 | .set i e k, N => fun ρ σ => wpE F e [] (kSet i (wpS F R k N)) ρ σ []
 | .setT is e k, N => fun ρ σ => wpE F e [] (SetTW is (wpS F R k N)) ρ σ []
 | .setA o n e k, N => fun ρ σ => wpE F e [] (wpE F o [] (SetAW n (wpS F R k N))) ρ σ []
 | .setI o i e k, N => fun ρ σ => wpE F e [] (wpE F o [] (wpE F i [] (SetIW (wpS F R k N)))) ρ σ []
 | .aug i _ e k, N => fun ρ σ => getS ρ[i]? fun old => wpE F e [] (AugW i (wpS F R k N)) ρ σ [old]
 | .ite c a b k, N => fun ρ σ => wpE F c [] (IfW (kN (wpS F R a (wpS F R k N))) (kN (wpS F R b (wpS F R k N)))) ρ σ []
 | .for' is tup it body k, N => fun ρ σ => wpE F it [] (ForW is tup (wpS F R body) (wpS F R k N)) ρ σ []
 | .while c body k, N => whileW (fun K ρ σ => wpE F c [] K ρ σ []) (wpS F R body) (wpS F R k N)
noncomputable def lb_KindTable_init_0 : S :=
 (.set 2 (.tup (.cons (.gv (.int 1) "R_PRIM") (.cons (.lv 1) .nil)))
 (.expr (.meth (.attr (.lv 0) .rows) .append (.cons (.lv 2) .nil))
 (.setI (.attr (.lv 0) .index) (.lv 2) (.lv 1)
 (.expr (.meth (.attr (.lv 0) .depths) .append (.cons (.const (.int 1)) .nil))
 (.expr (.meth (.attr (.lv 0) .weights) .append (.cons (.const (.int 1)) .nil))
 (.expr (.meth (.attr (.lv 0) .opens) .append (.cons (.const (.int 0)) .nil))
 .nil))))))
noncomputable def body_KindTable_init : S :=
 (.setA (.lv 0) .rows (.list .nil)
 (.setA (.lv 0) .index (.dict .nil)
 (.setA (.lv 0) .depths (.list .nil)
 (.setA (.lv 0) .weights (.list .nil)
 (.setA (.lv 0) .opens (.list .nil)
 (.for' [1] false (.call (.gv (.bi .range) "range") (.cons (.gv (.int 16) "PRIM_END") .nil))
 lb_KindTable_init_0
 .nil))))))
noncomputable def body_KindTable_row : S :=
 (.ite (.boo false (.cons (.cmp .Lt (.lv 1) (.const (.int 0))) (.cons (.cmp .GtE (.lv 1) (.call (.gv (.bi .len) "len") (.cons (.attr (.lv 0) .rows) .nil))) .nil)))
 (.raise .nil)
 .nil
 (.ret (.idx (.attr (.lv 0) .rows) (.lv 1)) .nil))
noncomputable def lb_KindTable_put_0 : S :=
 (.ite (.cmp .Gt (.bin .Add (.idx (.attr (.lv 0) .depths) (.lv 7)) (.lv 6)) (.lv 3))
 (.set 3 (.bin .Add (.idx (.attr (.lv 0) .depths) (.lv 7)) (.lv 6))
 .nil)
 .nil
 (.aug 4 .Add (.idx (.attr (.lv 0) .weights) (.lv 7))
 (.ite (.cmp .Eq (.idx (.attr (.lv 0) .opens) (.lv 7)) (.const (.int 1)))
 (.set 5 (.const (.int 1))
 .nil)
 .nil
 .nil)))
noncomputable def lk_KindTable_put_0 : S :=
 (.ite (.cmp .Gt (.lv 3) (.gv (.int 24) "DEEPEST_KIND"))
 (.raise .nil)
 .nil
 (.ite (.cmp .Gt (.lv 4) (.gv (.int 4096) "HEAVIEST_KIND"))
 (.raise .nil)
 .nil
 (.set 8 (.call (.gv (.bi .len) "len") (.cons (.attr (.lv 0) .rows) .nil))
 (.expr (.meth (.attr (.lv 0) .rows) .append (.cons (.lv 1) .nil))
 (.setI (.attr (.lv 0) .index) (.lv 1) (.lv 8)
 (.expr (.meth (.attr (.lv 0) .depths) .append (.cons (.lv 3) .nil))
 (.expr (.meth (.attr (.lv 0) .weights) .append (.cons (.lv 4) .nil))
 (.expr (.meth (.attr (.lv 0) .opens) .append (.cons (.lv 5) .nil))
 (.ret (.lv 8) .nil)))))))))
noncomputable def body_KindTable_put : S :=
 (.set 2 (.meth (.attr (.lv 0) .index) .get (.cons (.lv 1) (.cons (.neg (.const (.int 1))) .nil)))
 (.ite (.cmp .GtE (.lv 2) (.const (.int 0)))
 (.ret (.lv 2) .nil)
 .nil
 (.expr (.call (.gv (.fn .check_kind_row) "check_kind_row") (.cons (.lv 0) (.cons (.lv 1) .nil)))
 (.set 3 (.const (.int 1))
 (.set 4 (.const (.int 1))
 (.set 5 (.const (.int 0))
 (.ite (.boo false (.cons (.cmp .Eq (.idx (.lv 1) (.const (.int 0))) (.gv (.int 6) "R_VAR")) (.cons (.cmp .Eq (.idx (.lv 1) (.const (.int 0))) (.gv (.int 7) "R_MVAR")) .nil)))
 (.set 5 (.const (.int 1))
 .nil)
 .nil
 (.set 6 (.call (.gv (.fn .row_level) "row_level") (.cons (.idx (.lv 1) (.const (.int 0))) .nil))
 (.for' [7] false (.call (.gv (.fn .inner_kinds) "inner_kinds") (.cons (.lv 1) .nil))
 lb_KindTable_put_0
 lk_KindTable_put_0)))))))))
noncomputable def body_inner_kinds : S :=
 (.set 1 (.idx (.lv 0) (.const (.int 0)))
 (.ite (.boo false (.cons (.cmp .Eq (.lv 1) (.gv (.int 2) "R_CLASS")) (.cons (.cmp .Eq (.lv 1) (.gv (.int 3) "R_VALUE")) .nil)))
 (.ret (.idx (.lv 0) (.const (.int 2))) .nil)
 .nil
 (.ite (.boo false (.cons (.cmp .Eq (.lv 1) (.gv (.int 4) "R_ARRAY")) (.cons (.cmp .Eq (.lv 1) (.gv (.int 5) "R_BYREF")) (.cons (.cmp .Eq (.lv 1) (.gv (.int 8) "R_BOXED")) (.cons (.cmp .Eq (.lv 1) (.gv (.int 9) "R_ROREF")) (.cons (.cmp .Eq (.lv 1) (.gv (.int 11) "R_RAW")) .nil))))))
 (.ret (.tup (.cons (.idx (.lv 0) (.const (.int 1))) .nil)) .nil)
 .nil
 (.ite (.cmp .Eq (.lv 1) (.gv (.int 10) "R_FTN"))
 (.ret (.bin .Add (.tup (.cons (.idx (.lv 0) (.const (.int 1))) .nil)) (.idx (.lv 0) (.const (.int 3)))) .nil)
 .nil
 (.ret (.tup .nil) .nil)))))
noncomputable def body_row_level : S :=
 (.ite (.boo false (.cons (.cmp .Eq (.lv 0) (.gv (.int 2) "R_CLASS")) (.cons (.cmp .Eq (.lv 0) (.gv (.int 3) "R_VALUE")) (.cons (.cmp .Eq (.lv 0) (.gv (.int 4) "R_ARRAY")) .nil))))
 (.ret (.const (.int 1)) .nil)
 .nil
 (.ret (.const (.int 0)) .nil))
noncomputable def body_row_length : S :=
 (.ite (.boo false (.cons (.cmp .Eq (.lv 0) (.gv (.int 2) "R_CLASS")) (.cons (.cmp .Eq (.lv 0) (.gv (.int 3) "R_VALUE")) .nil)))
 (.ret (.const (.int 3)) .nil)
 .nil
 (.ite (.cmp .Eq (.lv 0) (.gv (.int 10) "R_FTN"))
 (.ret (.const (.int 4)) .nil)
 .nil
 (.ret (.const (.int 2)) .nil)))
noncomputable def lb_check_kind_row_0 : S :=
 (.expr (.meth (.lv 0) .row (.cons (.lv 3) .nil))
 .nil)
noncomputable def lk_check_kind_row_0 : S :=
 (.ite (.boo false (.cons (.cmp .Eq (.lv 2) (.gv (.int 2) "R_CLASS")) (.cons (.cmp .Eq (.lv 2) (.gv (.int 3) "R_VALUE")) .nil)))
 (.expr (.call (.gv (.fn .check_named) "check_named") (.cons (.lv 0) (.cons (.lv 1) .nil)))
 .nil)
 (.ite (.boo false (.cons (.cmp .Eq (.lv 2) (.gv (.int 6) "R_VAR")) (.cons (.cmp .Eq (.lv 2) (.gv (.int 7) "R_MVAR")) .nil)))
 (.ite (.cmp .Lt (.idx (.lv 1) (.const (.int 1))) (.const (.int 0)))
 (.raise .nil)
 .nil
 .nil)
 (.ite (.cmp .Eq (.lv 2) (.gv (.int 10) "R_FTN"))
 (.ite (.boo false (.cons (.not (.call (.gv (.fn .may_stand) "may_stand") (.cons (.lv 0) (.cons (.idx (.lv 1) (.const (.int 1))) .nil)))) (.cons (.cmp .Lt (.idx (.lv 1) (.const (.int 2))) (.const (.int 0))) .nil)))
 (.raise .nil)
 .nil
 (.expr (.call (.gv (.fn .check_args) "check_args") (.cons (.lv 0) (.cons (.idx (.lv 1) (.const (.int 3))) .nil)))
 .nil))
 (.ite (.cmp .Eq (.lv 2) (.gv (.int 8) "R_BOXED"))
 (.ite (.not (.boo false (.cons (.call (.gv (.fn .is_value) "is_value") (.cons (.lv 0) (.cons (.idx (.lv 1) (.const (.int 1))) .nil))) (.cons (.call (.gv (.fn .is_var) "is_var") (.cons (.lv 0) (.cons (.idx (.lv 1) (.const (.int 1))) .nil))) .nil))))
 (.raise .nil)
 .nil
 .nil)
 (.ite (.not (.call (.gv (.fn .may_stand) "may_stand") (.cons (.lv 0) (.cons (.idx (.lv 1) (.const (.int 1))) .nil))))
 (.raise .nil)
 .nil
 .nil)
 .nil)
 .nil)
 .nil)
 .nil)
noncomputable def body_check_kind_row : S :=
 (.ite (.boo false (.cons (.cmp .Eq (.call (.gv (.bi .len) "len") (.cons (.lv 1) .nil)) (.const (.int 0))) (.cons (.cmp .LtE (.idx (.lv 1) (.const (.int 0))) (.gv (.int 1) "R_PRIM")) (.cons (.cmp .Gt (.idx (.lv 1) (.const (.int 0))) (.gv (.int 11) "R_RAW")) .nil))))
 (.raise .nil)
 .nil
 (.set 2 (.idx (.lv 1) (.const (.int 0)))
 (.ite (.cmp .NotEq (.call (.gv (.bi .len) "len") (.cons (.lv 1) .nil)) (.call (.gv (.fn .row_length) "row_length") (.cons (.lv 2) .nil)))
 (.raise .nil)
 .nil
 (.for' [3] false (.call (.gv (.fn .inner_kinds) "inner_kinds") (.cons (.lv 1) .nil))
 lb_check_kind_row_0
 lk_check_kind_row_0))))
noncomputable def body_check_named : S :=
 (.ite (.boo false (.cons (.cmp .LtE (.idx (.lv 1) (.const (.int 1))) (.const (.int 0))) (.cons (.cmp .In (.idx (.lv 1) (.const (.int 1))) (.gv (.tbl .TID_PRIM) "TID_PRIM")) .nil)))
 (.raise .nil)
 .nil
 (.expr (.call (.gv (.fn .check_args) "check_args") (.cons (.lv 0) (.cons (.idx (.lv 1) (.const (.int 2))) .nil)))
 .nil))
noncomputable def lb_check_args_0 : S :=
 (.ite (.not (.call (.gv (.fn .may_stand) "may_stand") (.cons (.lv 0) (.cons (.lv 2) .nil))))
 (.raise .nil)
 .nil
 .nil)
noncomputable def body_check_args : S :=
 (.for' [2] false (.lv 1)
 lb_check_args_0
 .nil)
noncomputable def body_may_stand : S :=
 (.ite (.boo false (.cons (.cmp .Eq (.lv 1) (.gv (.int 0) "VOID")) (.cons (.cmp .Eq (.lv 1) (.gv (.int 14) "NULLK")) .nil)))
 (.ret (.const (.bool false)) .nil)
 .nil
 (.set 2 (.idx (.meth (.lv 0) .row (.cons (.lv 1) .nil)) (.const (.int 0)))
 (.ret (.boo false (.cons (.cmp .LtE (.lv 2) (.gv (.int 4) "R_ARRAY")) (.cons (.cmp .Eq (.lv 2) (.gv (.int 6) "R_VAR")) (.cons (.cmp .Eq (.lv 2) (.gv (.int 7) "R_MVAR")) .nil)))) .nil)))
noncomputable def body_class_kind : S :=
 (.ite (.cmp .In (.lv 1) (.gv (.tbl .TID_PRIM) "TID_PRIM"))
 (.ret (.call (.gv (.fn .prim_kind) "prim_kind") (.cons (.lv 1) (.cons (.lv 2) .nil))) .nil)
 .nil
 (.ret (.meth (.lv 0) .put (.cons (.tup (.cons (.gv (.int 2) "R_CLASS") (.cons (.lv 1) (.cons (.lv 2) .nil)))) .nil)) .nil))
noncomputable def body_prim_kind : S :=
 (.ite (.cmp .Gt (.call (.gv (.bi .len) "len") (.cons (.lv 1) .nil)) (.const (.int 0)))
 (.raise .nil)
 .nil
 (.ret (.idx (.gv (.tbl .TID_PRIM) "TID_PRIM") (.lv 0)) .nil))
noncomputable def body_array_kind : S :=
 (.ret (.meth (.lv 0) .put (.cons (.tup (.cons (.gv (.int 4) "R_ARRAY") (.cons (.lv 1) .nil))) .nil)) .nil)
noncomputable def body_var_kind : S :=
 (.ret (.meth (.lv 0) .put (.cons (.tup (.cons (.gv (.int 6) "R_VAR") (.cons (.lv 1) .nil))) .nil)) .nil)
noncomputable def body_mvar_kind : S :=
 (.ret (.meth (.lv 0) .put (.cons (.tup (.cons (.gv (.int 7) "R_MVAR") (.cons (.lv 1) .nil))) .nil)) .nil)
noncomputable def body_is_value : S :=
 (.ite (.boo true (.cons (.cmp .LtE (.gv (.int 1) "BOOL") (.lv 1)) (.cons (.cmp .LtE (.lv 1) (.gv (.int 11) "NINT")) .nil)))
 (.ret (.const (.bool true)) .nil)
 .nil
 (.ret (.cmp .Eq (.idx (.meth (.lv 0) .row (.cons (.lv 1) .nil)) (.const (.int 0))) (.gv (.int 3) "R_VALUE")) .nil))
noncomputable def body_is_var : S :=
 (.set 2 (.idx (.meth (.lv 0) .row (.cons (.lv 1) .nil)) (.const (.int 0)))
 (.ret (.boo false (.cons (.cmp .Eq (.lv 2) (.gv (.int 6) "R_VAR")) (.cons (.cmp .Eq (.lv 2) (.gv (.int 7) "R_MVAR")) .nil))) .nil))
noncomputable def body_op_sort : S :=
 (.ret (.meth (.gv (.tbl .OP_SORT) "OP_SORT") .get (.cons (.lv 0) (.cons (.neg (.const (.int 1))) .nil))) .nil)
noncomputable def lb_TypeDef_init_0 : S :=
 (.expr (.meth (.attr (.lv 0) .params) .append (.cons (.lv 8) .nil))
 (.expr (.meth (.attr (.lv 0) .variances) .append (.cons (.gv (.int 0) "VA_NONE") .nil))
 (.expr (.meth (.attr (.lv 0) .bounds) .append (.cons (.tup (.cons (.const (.int 0)) (.cons (.tup .nil) .nil))) .nil))
 .nil)))
noncomputable def lk_TypeDef_init_0 : S :=
 (.setA (.lv 0) .fields (.list .nil)
 (.setA (.lv 0) .methods (.list .nil)
 (.setA (.lv 0) .asm (.lv 7)
 (.setA (.lv 0) .cctor (.const (.int 0))
 (.setA (.lv 0) .under (.neg (.const (.int 1)))
 (.setA (.lv 0) .impls (.list .nil)
 (.setA (.lv 0) .props (.list .nil)
 (.setA (.lv 0) .events (.list .nil)
 (.setA (.lv 0) .finaliser (.const (.int 0))
 (.setA (.lv 0) .home (.const (.int 0))
 .nil))))))))))
noncomputable def body_TypeDef_init : S :=
 (.setA (.lv 0) .tid (.lv 1)
 (.setA (.lv 0) .name (.lv 2)
 (.setA (.lv 0) .sort (.lv 3)
 (.setA (.lv 0) .flags (.lv 4)
 (.setA (.lv 0) .base (.lv 5)
 (.setA (.lv 0) .ifaces (.list .nil)
 (.setA (.lv 0) .params (.list .nil)
 (.setA (.lv 0) .variances (.list .nil)
 (.setA (.lv 0) .bounds (.list .nil)
 (.for' [8] false (.lv 6)
 lb_TypeDef_init_0
 lk_TypeDef_init_0))))))))))
noncomputable def body_MethodDef_init : S :=
 (.setA (.lv 0) .mid (.lv 1)
 (.setA (.lv 0) .owner (.lv 2)
 (.setA (.lv 0) .name (.lv 3)
 (.setA (.lv 0) .access (.lv 4)
 (.setA (.lv 0) .flags (.lv 5)
 (.setA (.lv 0) .ngen (.const (.int 0))
 (.setA (.lv 0) .gnames (.list .nil)
 (.setA (.lv 0) .gbounds (.list .nil)
 (.setA (.lv 0) .ret (.lv 6)
 (.setA (.lv 0) .params (.call (.gv (.bi .tuple) "tuple") (.cons (.lv 7) .nil))
 (.setA (.lv 0) .pnames (.call (.gv (.fn .plain_names) "plain_names") (.cons (.call (.gv (.bi .len) "len") (.cons (.lv 7) .nil)) .nil))
 (.setA (.lv 0) .pflags (.bin .Mult (.tup (.cons (.const (.int 0)) .nil)) (.call (.gv (.bi .len) "len") (.cons (.lv 7) .nil)))
 (.setA (.lv 0) .body (.const .none)
 (.setA (.lv 0) .native (.const (.int 0))
 .nil))))))))))))))
noncomputable def body_Body_init : S :=
 (.setA (.lv 0) .locals_ (.lv 1)
 (.setA (.lv 0) .maxstack (.lv 2)
 (.setA (.lv 0) .code (.lv 3)
 (.setA (.lv 0) .clauses (.lv 4)
 .nil))))
noncomputable def body_Store_init : S :=
 (.setA (.lv 0) .kt (.call (.gv (.cls .KindTable) "KindTable") .nil)
 (.setA (.lv 0) .types' (.list (.cons (.const .none) .nil))
 (.setA (.lv 0) .fields_ (.list (.cons (.const .none) .nil))
 (.setA (.lv 0) .methods (.list (.cons (.const .none) .nil))
 (.setA (.lv 0) .names (.dict .nil)
 (.setA (.lv 0) .asms (.list .nil)
 (.setA (.lv 0) .entry (.const (.int 0))
 .nil)))))))
noncomputable def lb_plain_names_0 : S :=
 (.expr (.meth (.lv 1) .append (.cons (.bin .Add (.const (.str "p")) (.call (.gv (.bi .str) "str") (.cons (.lv 2) .nil))) .nil))
 .nil)
noncomputable def lk_plain_names_0 : S :=
 (.ret (.call (.gv (.bi .tuple) "tuple") (.cons (.lv 1) .nil)) .nil)
noncomputable def body_plain_names : S :=
 (.set 1 (.list .nil)
 (.for' [2] false (.call (.gv (.bi .range) "range") (.cons (.lv 0) .nil))
 lb_plain_names_0
 lk_plain_names_0))
noncomputable def body_new_asm : S :=
 (.expr (.meth (.attr (.lv 0) .asms) .append (.cons (.lv 1) .nil))
 (.ret (.bin .Sub (.call (.gv (.bi .len) "len") (.cons (.attr (.lv 0) .asms) .nil)) (.const (.int 1))) .nil))
noncomputable def body_usual_base : S :=
 (.ite (.cmp .Eq (.lv 1) (.gv (.int 2) "S_STRUCT"))
 (.ret (.call (.gv (.fn .class_kind) "class_kind") (.cons (.attr (.lv 0) .kt) (.cons (.gv (.int 2) "T_VALUETYPE") (.cons (.tup .nil) .nil)))) .nil)
 .nil
 (.ite (.cmp .Eq (.lv 1) (.gv (.int 5) "S_ENUM"))
 (.ret (.call (.gv (.fn .class_kind) "class_kind") (.cons (.attr (.lv 0) .kt) (.cons (.gv (.int 3) "T_ENUM") (.cons (.tup .nil) .nil)))) .nil)
 .nil
 (.ite (.cmp .Eq (.lv 1) (.gv (.int 4) "S_DELEGATE"))
 (.ret (.call (.gv (.fn .class_kind) "class_kind") (.cons (.attr (.lv 0) .kt) (.cons (.gv (.int 6) "T_DELEGATE") (.cons (.tup .nil) .nil)))) .nil)
 .nil
 (.ret (.neg (.const (.int 1))) .nil))))
noncomputable def body_sort_flags : S :=
 (.ite (.cmp .Eq (.lv 0) (.gv (.int 3) "S_IFACE"))
 (.ret (.bin .BitOr (.lv 1) (.gv (.int 1) "TF_ABSTRACT")) .nil)
 .nil
 (.ite (.cmp .Eq (.lv 0) (.gv (.int 1) "S_CLASS"))
 (.ret (.lv 1) .nil)
 .nil
 (.ret (.bin .BitOr (.lv 1) (.gv (.int 2) "TF_SEALED")) .nil)))
noncomputable def body_add_type : S :=
 (.ite (.cmp .Lt (.lv 5) (.const (.int 0)))
 (.set 5 (.call (.gv (.fn .usual_base) "usual_base") (.cons (.lv 0) (.cons (.lv 3) .nil)))
 .nil)
 .nil
 (.set 7 (.call (.gv (.bi .len) "len") (.cons (.attr (.lv 0) .types') .nil))
 (.expr (.meth (.attr (.lv 0) .types') .append (.cons (.call (.gv (.cls .TypeDef) "TypeDef") (.cons (.lv 7) (.cons (.lv 2) (.cons (.lv 3) (.cons (.call (.gv (.fn .sort_flags) "sort_flags") (.cons (.lv 3) (.cons (.lv 4) .nil))) (.cons (.lv 5) (.cons (.lv 6) (.cons (.lv 1) .nil)))))))) .nil))
 (.set 8 (.tup (.cons (.lv 1) (.cons (.lv 2) (.cons (.call (.gv (.bi .len) "len") (.cons (.lv 6) .nil)) .nil))))
 (.ite (.cmp .NotIn (.lv 8) (.attr (.lv 0) .names))
 (.setI (.attr (.lv 0) .names) (.lv 8) (.lv 7)
 .nil)
 .nil
 (.ret (.lv 7) .nil))))))
noncomputable def body_kept_flags : S :=
 (.ite (.boo true (.cons (.cmp .NotEq (.bin .BitAnd (.lv 0) (.bin .Add (.gv (.int 32) "MF_CTOR") (.gv (.int 64) "MF_CCTOR"))) (.const (.int 0))) (.cons (.cmp .NotEq (.bin .BitAnd (.lv 0) (.gv (.int 128) "MF_SPECIAL")) (.const (.int 0))) .nil)))
 (.ret (.bin .Sub (.lv 0) (.gv (.int 128) "MF_SPECIAL")) .nil)
 .nil
 (.ret (.lv 0) .nil))
noncomputable def body_add_method : S :=
 (.set 7 (.idx (.attr (.lv 0) .types') (.lv 1))
 (.set 8 (.call (.gv (.bi .len) "len") (.cons (.attr (.lv 0) .methods) .nil))
 (.expr (.meth (.attr (.lv 0) .methods) .append (.cons (.call (.gv (.cls .MethodDef) "MethodDef") (.cons (.lv 8) (.cons (.lv 1) (.cons (.lv 2) (.cons (.lv 3) (.cons (.call (.gv (.fn .kept_flags) "kept_flags") (.cons (.lv 4) .nil)) (.cons (.lv 5) (.cons (.lv 6) .nil)))))))) .nil))
 (.expr (.meth (.attr (.lv 7) .methods) .append (.cons (.lv 8) .nil))
 (.expr (.call (.gv (.fn .note_method) "note_method") (.cons (.lv 0) (.cons (.lv 8) .nil)))
 (.ret (.lv 8) .nil))))))
noncomputable def body_note_method : S :=
 (.set 2 (.idx (.attr (.lv 0) .methods) (.lv 1))
 (.set 3 (.idx (.attr (.lv 0) .types') (.attr (.lv 2) .owner))
 (.ite (.cmp .NotEq (.bin .BitAnd (.attr (.lv 2) .flags) (.gv (.int 64) "MF_CCTOR")) (.const (.int 0)))
 (.setA (.lv 3) .cctor (.lv 1)
 .nil)
 .nil
 (.ite (.boo true (.cons (.cmp .Eq (.attr (.lv 2) .name) (.const (.str "Finalize"))) (.cons (.call (.gv (.fn .is_virtual) "is_virtual") (.cons (.lv 2) .nil)) (.cons (.cmp .Eq (.call (.gv (.bi .len) "len") (.cons (.attr (.lv 2) .params) .nil)) (.const (.int 0))) (.cons (.cmp .Eq (.attr (.lv 2) .ret) (.gv (.int 0) "VOID")) .nil)))))
 (.ite (.boo false (.cons (.cmp .Eq (.attr (.lv 2) .owner) (.gv (.int 1) "T_OBJECT")) (.cons (.cmp .Eq (.bin .BitAnd (.attr (.lv 2) .flags) (.gv (.int 4) "MF_NEWSLOT")) (.const (.int 0))) .nil)))
 (.setA (.lv 3) .finaliser (.lv 1)
 .nil)
 .nil
 .nil)
 .nil
 .nil))))
noncomputable def lb_set_generic_0 : S :=
 (.expr (.meth (.attr (.lv 4) .gnames) .append (.cons (.idx (.lv 2) (.lv 5)) .nil))
 (.ite (.cmp .Lt (.lv 5) (.call (.gv (.bi .len) "len") (.cons (.lv 3) .nil)))
 (.expr (.meth (.attr (.lv 4) .gbounds) .append (.cons (.idx (.lv 3) (.lv 5)) .nil))
 .nil)
 (.expr (.meth (.attr (.lv 4) .gbounds) .append (.cons (.tup (.cons (.const (.int 0)) (.cons (.tup .nil) .nil))) .nil))
 .nil)
 .nil))
noncomputable def body_set_generic : S :=
 (.set 4 (.idx (.attr (.lv 0) .methods) (.lv 1))
 (.setA (.lv 4) .ngen (.call (.gv (.bi .len) "len") (.cons (.lv 2) .nil))
 (.setA (.lv 4) .gnames (.list .nil)
 (.setA (.lv 4) .gbounds (.list .nil)
 (.for' [5] false (.call (.gv (.bi .range) "range") (.cons (.call (.gv (.bi .len) "len") (.cons (.lv 2) .nil)) .nil))
 lb_set_generic_0
 .nil)))))
noncomputable def lb_set_body_1 : S :=
 (.expr (.meth (.lv 8) .append (.cons (.lv 9) .nil))
 .nil)
noncomputable def lk_set_body_1 : S :=
 (.setA (.idx (.attr (.lv 0) .methods) (.lv 1)) .body (.call (.gv (.cls .Body) "Body") (.cons (.call (.gv (.bi .tuple) "tuple") (.cons (.lv 2) .nil)) (.cons (.lv 3) (.cons (.lv 6) (.cons (.lv 8) .nil)))))
 .nil)
noncomputable def lb_set_body_0 : S :=
 (.expr (.meth (.lv 6) .append (.cons (.lv 7) .nil))
 .nil)
noncomputable def lk_set_body_0 : S :=
 (.set 8 (.list .nil)
 (.for' [9] false (.lv 5)
 lb_set_body_1
 lk_set_body_1))
noncomputable def body_set_body : S :=
 (.set 6 (.list .nil)
 (.for' [7] false (.lv 4)
 lb_set_body_0
 lk_set_body_0))
noncomputable def body_is_virtual : S :=
 (.ret (.cmp .NotEq (.bin .BitAnd (.attr (.lv 0) .flags) (.gv (.int 2) "MF_VIRTUAL")) (.const (.int 0))) .nil)
noncomputable def lb_Paths_init_0 : S :=
 (.setI (.attr (.lv 0) .places) (.idx (.lv 2) (.lv 4)) (.lv 4)
 .nil)
noncomputable def lk_Paths_init_0 : S :=
 (.setA (.lv 0) .index (.lv 3)
 (.setA (.lv 0) .known (.dict .nil)
 .nil))
noncomputable def body_Paths_init : S :=
 (.setA (.lv 0) .store (.lv 1)
 (.setA (.lv 0) .places (.dict .nil)
 (.for' [4] false (.call (.gv (.bi .range) "range") (.cons (.call (.gv (.bi .len) "len") (.cons (.lv 2) .nil)) .nil))
 lb_Paths_init_0
 lk_Paths_init_0)))
noncomputable def body_Paths_kind : S :=
 (.ite (.cmp .NotIn (.lv 1) (.attr (.lv 0) .known))
 (.expr (.call (.gv (.fn .learn_kind) "learn_kind") (.cons (.lv 0) (.cons (.lv 1) .nil)))
 .nil)
 .nil
 (.ret (.idx (.attr (.lv 0) .known) (.lv 1)) .nil))
noncomputable def ce_Paths_kinds_0 : E := (.meth (.lv 0) .kind (.cons (.cv 0) .nil))
noncomputable def body_Paths_kinds : S :=
 (.ret (.call (.gv (.bi .tuple) "tuple") (.cons (.comp ce_Paths_kinds_0 (.lv 1) .nil 0 ["k"]) .nil)) .nil)
noncomputable def lb_same_defs_0 : S :=
 (.ite (.cmp .NotEq (.call (.gv (.fn .type_told) "type_told") (.cons (.lv 7) (.cons (.idx (.lv 4) (.lv 9)) .nil))) (.call (.gv (.fn .type_told) "type_told") (.cons (.lv 8) (.cons (.idx (.lv 5) (.lv 9)) .nil))))
 (.ret (.const (.bool false)) .nil)
 .nil
 .nil)
noncomputable def lk_same_defs_0 : S :=
 (.ret (.const (.bool true)) .nil)
noncomputable def body_same_defs : S :=
 (.ite (.cmp .NotEq (.call (.gv (.fn .asm_name) "asm_name") (.cons (.lv 0) (.cons (.lv 1) .nil))) (.call (.gv (.fn .asm_name) "asm_name") (.cons (.lv 2) (.cons (.lv 3) .nil))))
 (.ret (.const (.bool false)) .nil)
 .nil
 (.set 4 (.call (.gv (.fn .own_types) "own_types") (.cons (.lv 0) (.cons (.lv 1) .nil)))
 (.set 5 (.call (.gv (.fn .own_types) "own_types") (.cons (.lv 2) (.cons (.lv 3) .nil)))
 (.ite (.cmp .NotEq (.call (.gv (.bi .len) "len") (.cons (.lv 4) .nil)) (.call (.gv (.bi .len) "len") (.cons (.lv 5) .nil)))
 (.ret (.const (.bool false)) .nil)
 .nil
 (.set 6 (.dict .nil)
 (.set 7 (.call (.gv (.cls .Paths) "Paths") (.cons (.lv 0) (.cons (.lv 4) (.cons (.lv 6) .nil))))
 (.set 8 (.call (.gv (.cls .Paths) "Paths") (.cons (.lv 2) (.cons (.lv 5) (.cons (.lv 6) .nil))))
 (.for' [9] false (.call (.gv (.bi .range) "range") (.cons (.call (.gv (.bi .len) "len") (.cons (.lv 4) .nil)) .nil))
 lb_same_defs_0
 lk_same_defs_0))))))))
noncomputable def body_asm_name : S :=
 (.ite (.boo false (.cons (.cmp .Lt (.lv 1) (.const (.int 0))) (.cons (.cmp .GtE (.lv 1) (.call (.gv (.bi .len) "len") (.cons (.attr (.lv 0) .asms) .nil))) .nil)))
 (.raise .nil)
 .nil
 (.ret (.idx (.attr (.lv 0) .asms) (.lv 1)) .nil))
noncomputable def ce_own_types_0 : E := (.cv 0)
noncomputable def cc_own_types_0 : E := (.boo true (.cons (.cmp .IsNot (.idx (.attr (.lv 0) .types') (.cv 0)) (.const .none)) (.cons (.cmp .Eq (.attr (.idx (.attr (.lv 0) .types') (.cv 0)) .asm) (.lv 1)) .nil)))
noncomputable def body_own_types : S :=
 (.ret (.comp ce_own_types_0 (.call (.gv (.bi .range) "range") (.cons (.const (.int 1)) (.cons (.call (.gv (.bi .len) "len") (.cons (.attr (.lv 0) .types') .nil)) .nil))) cc_own_types_0 0 ["tid"]) .nil)
noncomputable def body_standing : S :=
 (.ite (.boo false (.cons (.cmp .LtE (.lv 1) (.const (.int 0))) (.cons (.cmp .GtE (.lv 1) (.call (.gv (.bi .len) "len") (.cons (.lv 0) .nil))) .nil)))
 (.raise .nil)
 .nil
 (.ret (.idx (.lv 0) (.lv 1)) .nil))
noncomputable def lb_type_path_0 : S :=
 (.expr (.meth (.lv 3) .append (.cons (.attr (.lv 2) .name) .nil))
 (.expr (.meth (.lv 3) .append (.cons (.call (.gv (.bi .len) "len") (.cons (.attr (.lv 2) .params) .nil)) .nil))
 (.set 2 (.ife (.cmp .Lt (.attr (.lv 2) .home) (.attr (.lv 2) .tid)) (.idx (.attr (.attr (.lv 0) .store) .types') (.attr (.lv 2) .home)) (.const .none))
 .nil)))
noncomputable def lk_type_path_0 : S :=
 (.ret (.call (.gv (.bi .tuple) "tuple") (.cons (.lv 3) .nil)) .nil)
noncomputable def body_type_path : S :=
 (.ite (.cmp .Eq (.lv 1) (.const (.int 0)))
 (.ret (.tup .nil) .nil)
 .nil
 (.ite (.cmp .In (.lv 1) (.attr (.lv 0) .places))
 (.ret (.tup (.cons (.idx (.attr (.lv 0) .places) (.lv 1)) .nil)) .nil)
 .nil
 (.set 2 (.call (.gv (.fn .standing) "standing") (.cons (.attr (.attr (.lv 0) .store) .types') (.cons (.lv 1) (.cons (.const (.str "type")) .nil))))
 (.ite (.cmp .Is (.lv 2) (.const .none))
 (.ret (.tup (.cons (.const (.str "")) (.cons (.lv 1) .nil))) .nil)
 .nil
 (.set 3 (.list (.cons (.idx (.attr (.attr (.lv 0) .store) .asms) (.attr (.lv 2) .asm)) .nil))
 (.while (.cmp .IsNot (.lv 2) (.const .none))
 lb_type_path_0
 lk_type_path_0))))))
noncomputable def lb_learn_kind_1 : S :=
 (.ite (.cmp .NotIn (.lv 4) (.attr (.lv 0) .known))
 (.expr (.meth (.lv 2) .append (.cons (.lv 4) .nil))
 .nil)
 .nil
 .nil)
noncomputable def lk_learn_kind_1 : S :=
 (.ite (.cmp .Eq (.idx (.lv 2) (.neg (.const (.int 1)))) (.lv 3))
 (.expr (.meth (.lv 2) .pop .nil)
 (.set 5 (.call (.gv (.fn .kind_path) "kind_path") (.cons (.lv 0) (.cons (.lv 3) .nil)))
 (.setI (.attr (.lv 0) .known) (.lv 3) (.meth (.attr (.lv 0) .index) .setdefault (.cons (.lv 5) (.cons (.call (.gv (.bi .len) "len") (.cons (.attr (.lv 0) .index) .nil)) .nil)))
 .nil)))
 .nil
 .nil)
noncomputable def lb_learn_kind_0 : S :=
 (.set 3 (.idx (.lv 2) (.neg (.const (.int 1))))
 (.for' [4] false (.call (.gv (.fn .path_parts) "path_parts") (.cons (.lv 0) (.cons (.lv 3) .nil)))
 lb_learn_kind_1
 lk_learn_kind_1))
noncomputable def body_learn_kind : S :=
 (.set 2 (.list (.cons (.lv 1) .nil))
 (.while (.lv 2)
 lb_learn_kind_0
 .nil))
noncomputable def body_path_parts : S :=
 (.ret (.ife (.cmp .Eq (.lv 1) (.neg (.const (.int 1)))) (.tup .nil) (.call (.gv (.fn .inner_kinds) "inner_kinds") (.cons (.meth (.attr (.attr (.lv 0) .store) .kt) .row (.cons (.lv 1) .nil)) .nil))) .nil)
noncomputable def body_kind_path : S :=
 (.ite (.cmp .Eq (.lv 1) (.neg (.const (.int 1))))
 (.ret (.tup .nil) .nil)
 .nil
 (.set 2 (.meth (.attr (.attr (.lv 0) .store) .kt) .row (.cons (.lv 1) .nil))
 (.ite (.boo false (.cons (.cmp .Eq (.idx (.lv 2) (.const (.int 0))) (.gv (.int 2) "R_CLASS")) (.cons (.cmp .Eq (.idx (.lv 2) (.const (.int 0))) (.gv (.int 3) "R_VALUE")) .nil)))
 (.ret (.tup (.cons (.idx (.lv 2) (.const (.int 0))) (.cons (.call (.gv (.fn .type_path) "type_path") (.cons (.lv 0) (.cons (.idx (.lv 2) (.const (.int 1))) .nil))) (.cons (.meth (.lv 0) .kinds (.cons (.idx (.lv 2) (.const (.int 2))) .nil)) .nil)))) .nil)
 .nil
 (.ite (.boo false (.cons (.cmp .Eq (.idx (.lv 2) (.const (.int 0))) (.gv (.int 1) "R_PRIM")) (.cons (.call (.gv (.fn .is_var) "is_var") (.cons (.attr (.attr (.lv 0) .store) .kt) (.cons (.lv 1) .nil))) .nil)))
 (.ret (.lv 2) .nil)
 .nil
 (.ite (.boo true (.cons (.cmp .NotEq (.idx (.lv 2) (.const (.int 0))) (.gv (.int 4) "R_ARRAY")) (.cons (.cmp .NotEq (.idx (.lv 2) (.const (.int 0))) (.gv (.int 5) "R_BYREF")) .nil)))
 (.raise .nil)
 .nil
 (.ret (.tup (.cons (.idx (.lv 2) (.const (.int 0))) (.cons (.meth (.lv 0) .kind (.cons (.idx (.lv 2) (.const (.int 1))) .nil)) .nil))) .nil))))))
noncomputable def body_method_path : S :=
 (.setT [2, 3, 4] (.lv 1)
 (.ret (.tup (.cons (.meth (.lv 0) .kind (.cons (.lv 2) .nil)) (.cons (.call (.gv (.fn .method_name) "method_name") (.cons (.lv 0) (.cons (.lv 3) .nil))) (.cons (.meth (.lv 0) .kinds (.cons (.lv 4) .nil)) .nil)))) .nil))
noncomputable def body_method_name : S :=
 (.ite (.cmp .Eq (.lv 1) (.const (.int 0)))
 (.ret (.tup .nil) .nil)
 .nil
 (.set 2 (.call (.gv (.fn .standing) "standing") (.cons (.attr (.attr (.lv 0) .store) .methods) (.cons (.lv 1) (.cons (.const (.str "method")) .nil))))
 (.ite (.cmp .Is (.lv 2) (.const .none))
 (.ret (.tup (.cons (.lv 1) .nil)) .nil)
 .nil
 (.ret (.tup (.cons (.attr (.lv 2) .name) (.cons (.attr (.lv 2) .ngen) (.cons (.bin .BitAnd (.attr (.lv 2) .flags) (.gv (.int 1) "MF_STATIC")) (.cons (.meth (.lv 0) .kind (.cons (.attr (.lv 2) .ret) .nil)) (.cons (.meth (.lv 0) .kinds (.cons (.attr (.lv 2) .params) .nil)) .nil)))))) .nil))))
noncomputable def body_field_path : S :=
 (.set 2 (.call (.gv (.fn .standing) "standing") (.cons (.attr (.attr (.lv 0) .store) .fields_) (.cons (.idx (.lv 1) (.const (.int 1))) (.cons (.const (.str "field")) .nil))))
 (.ite (.cmp .Is (.lv 2) (.const .none))
 (.ret (.tup (.cons (.meth (.lv 0) .kind (.cons (.idx (.lv 1) (.const (.int 0))) .nil)) (.cons (.idx (.lv 1) (.const (.int 1))) .nil))) .nil)
 .nil
 (.ret (.tup (.cons (.meth (.lv 0) .kind (.cons (.idx (.lv 1) (.const (.int 0))) .nil)) (.cons (.attr (.lv 2) .name) (.cons (.meth (.lv 0) .kind (.cons (.attr (.lv 2) .kind) .nil)) .nil)))) .nil)))
noncomputable def body_member_name : S :=
 (.ite (.cmp .Eq (.lv 1) (.const (.int 0)))
 (.ret (.tup .nil) .nil)
 .nil
 (.set 2 (.call (.gv (.fn .standing) "standing") (.cons (.attr (.attr (.lv 0) .store) .methods) (.cons (.lv 1) (.cons (.const (.str "method")) .nil))))
 (.set 3 (.ife (.cmp .Is (.lv 2) (.const .none)) (.const (.int 0)) (.attr (.lv 2) .owner))
 (.ret (.tup (.cons (.call (.gv (.fn .type_path) "type_path") (.cons (.lv 0) (.cons (.lv 3) .nil))) (.cons (.call (.gv (.fn .method_name) "method_name") (.cons (.lv 0) (.cons (.lv 1) .nil))) .nil))) .nil))))
noncomputable def ce_bound_rows_0 : E := (.tup (.cons (.idx (.cv 0) (.const (.int 0))) (.cons (.meth (.lv 0) .kinds (.cons (.idx (.cv 0) (.const (.int 1))) .nil)) .nil)))
noncomputable def body_bound_rows : S :=
 (.ret (.call (.gv (.bi .tuple) "tuple") (.cons (.comp ce_bound_rows_0 (.lv 1) .nil 0 ["row"]) .nil)) .nil)
noncomputable def ce_type_told_4 : E := (.tup (.cons (.cv 0) (.cons (.meth (.lv 0) .kind (.cons (.cv 1) .nil)) (.cons (.call (.gv (.fn .member_name) "member_name") (.cons (.lv 0) (.cons (.cv 2) .nil))) (.cons (.call (.gv (.fn .member_name) "member_name") (.cons (.lv 0) (.cons (.cv 3) .nil))) .nil)))))
noncomputable def ce_type_told_3 : E := (.tup (.cons (.cv 0) (.cons (.meth (.lv 0) .kind (.cons (.cv 1) .nil)) (.cons (.call (.gv (.fn .member_name) "member_name") (.cons (.lv 0) (.cons (.cv 2) .nil))) (.cons (.call (.gv (.fn .member_name) "member_name") (.cons (.lv 0) (.cons (.cv 3) .nil))) (.cons (.meth (.lv 0) .kinds (.cons (.cv 4) .nil)) .nil))))))
noncomputable def ce_type_told_2 : E := (.tup (.cons (.call (.gv (.fn .member_name) "member_name") (.cons (.lv 0) (.cons (.cv 0) .nil))) (.cons (.call (.gv (.fn .method_path) "method_path") (.cons (.lv 0) (.cons (.tup (.cons (.cv 1) (.cons (.cv 2) (.cons (.tup .nil) .nil)))) .nil))) .nil)))
noncomputable def ce_type_told_1 : E := (.call (.gv (.fn .method_told) "method_told") (.cons (.lv 0) (.cons (.cv 0) .nil)))
noncomputable def ce_type_told_0 : E := (.call (.gv (.fn .field_told) "field_told") (.cons (.lv 0) (.cons (.cv 0) .nil)))
noncomputable def body_type_told : S :=
 (.set 2 (.idx (.attr (.attr (.lv 0) .store) .types') (.lv 1))
 (.set 3 (.tup (.cons (.attr (.lv 2) .name) (.cons (.attr (.lv 2) .sort) (.cons (.attr (.lv 2) .flags) (.cons (.meth (.lv 0) .kind (.cons (.attr (.lv 2) .base) .nil)) (.cons (.meth (.lv 0) .kinds (.cons (.attr (.lv 2) .ifaces) .nil)) (.cons (.meth (.lv 0) .kind (.cons (.attr (.lv 2) .under) .nil)) .nil)))))))
 (.set 4 (.tup (.cons (.call (.gv (.bi .tuple) "tuple") (.cons (.attr (.lv 2) .params) .nil)) (.cons (.call (.gv (.bi .tuple) "tuple") (.cons (.attr (.lv 2) .variances) .nil)) (.cons (.call (.gv (.fn .bound_rows) "bound_rows") (.cons (.lv 0) (.cons (.attr (.lv 2) .bounds) .nil))) (.cons (.call (.gv (.fn .type_path) "type_path") (.cons (.lv 0) (.cons (.attr (.lv 2) .home) .nil))) .nil)))))
 (.set 5 (.call (.gv (.bi .tuple) "tuple") (.cons (.comp ce_type_told_0 (.attr (.lv 2) .fields) .nil 0 ["fid"]) .nil))
 (.set 6 (.call (.gv (.bi .tuple) "tuple") (.cons (.comp ce_type_told_1 (.attr (.lv 2) .methods) .nil 0 ["mid"]) .nil))
 (.set 7 (.call (.gv (.bi .tuple) "tuple") (.cons (.comp ce_type_told_2 (.attr (.lv 2) .impls) .nil 3 ["b", "o", "d"]) .nil))
 (.set 8 (.call (.gv (.bi .tuple) "tuple") (.cons (.comp ce_type_told_3 (.attr (.lv 2) .props) .nil 5 ["n", "k", "g", "s", "i"]) .nil))
 (.set 9 (.call (.gv (.bi .tuple) "tuple") (.cons (.comp ce_type_told_4 (.attr (.lv 2) .events) .nil 4 ["n", "k", "a", "r"]) .nil))
 (.set 10 (.tup (.cons (.call (.gv (.fn .member_name) "member_name") (.cons (.lv 0) (.cons (.attr (.lv 2) .cctor) .nil))) (.cons (.call (.gv (.fn .member_name) "member_name") (.cons (.lv 0) (.cons (.attr (.lv 2) .finaliser) .nil))) .nil)))
 (.ret (.tup (.cons (.lv 3) (.cons (.lv 4) (.cons (.lv 5) (.cons (.lv 6) (.cons (.lv 7) (.cons (.lv 8) (.cons (.lv 9) (.cons (.lv 10) .nil))))))))) .nil))))))))))
noncomputable def body_field_told : S :=
 (.set 2 (.idx (.attr (.attr (.lv 0) .store) .fields_) (.lv 1))
 (.ret (.tup (.cons (.attr (.lv 2) .name) (.cons (.meth (.lv 0) .kind (.cons (.attr (.lv 2) .kind) .nil)) (.cons (.attr (.lv 2) .access) (.cons (.attr (.lv 2) .flags) (.cons (.attr (.lv 2) .value) .nil)))))) .nil))
noncomputable def body_method_told : S :=
 (.set 2 (.idx (.attr (.attr (.lv 0) .store) .methods) (.lv 1))
 (.set 3 (.tup (.cons (.attr (.lv 2) .name) (.cons (.attr (.lv 2) .access) (.cons (.attr (.lv 2) .flags) (.cons (.attr (.lv 2) .ngen) (.cons (.call (.gv (.bi .tuple) "tuple") (.cons (.attr (.lv 2) .gnames) .nil)) (.cons (.call (.gv (.fn .bound_rows) "bound_rows") (.cons (.lv 0) (.cons (.attr (.lv 2) .gbounds) .nil))) (.cons (.attr (.lv 2) .native) .nil))))))))
 (.set 4 (.tup (.cons (.meth (.lv 0) .kind (.cons (.attr (.lv 2) .ret) .nil)) (.cons (.meth (.lv 0) .kinds (.cons (.attr (.lv 2) .params) .nil)) (.cons (.call (.gv (.bi .tuple) "tuple") (.cons (.attr (.lv 2) .pnames) .nil)) (.cons (.call (.gv (.bi .tuple) "tuple") (.cons (.attr (.lv 2) .pflags) .nil)) .nil)))))
 (.ite (.cmp .Is (.attr (.lv 2) .body) (.const .none))
 (.ret (.tup (.cons (.lv 3) (.cons (.lv 4) (.cons (.tup .nil) .nil)))) .nil)
 .nil
 (.ret (.tup (.cons (.lv 3) (.cons (.lv 4) (.cons (.call (.gv (.fn .body_told) "body_told") (.cons (.lv 0) (.cons (.attr (.lv 2) .body) .nil))) .nil)))) .nil)))))
noncomputable def ce_body_told_1 : E := (.call (.gv (.fn .clause_path) "clause_path") (.cons (.lv 0) (.cons (.cv 0) .nil)))
noncomputable def ce_body_told_0 : E := (.tup (.cons (.idx (.cv 0) (.const (.int 0))) (.cons (.call (.gv (.fn .operand_path) "operand_path") (.cons (.lv 0) (.cons (.call (.gv (.fn .op_sort) "op_sort") (.cons (.idx (.cv 0) (.const (.int 0))) .nil)) (.cons (.idx (.cv 0) (.const (.int 1))) .nil)))) .nil)))
noncomputable def body_body_told : S :=
 (.set 2 (.ife (.cmp .Gt (.attr (.lv 1) .maxstack) (.gv (.int 8) "LEAST_DEEP")) (.attr (.lv 1) .maxstack) (.gv (.int 8) "LEAST_DEEP"))
 (.set 3 (.call (.gv (.bi .tuple) "tuple") (.cons (.comp ce_body_told_0 (.attr (.lv 1) .code) .nil 0 ["row"]) .nil))
 (.set 4 (.call (.gv (.bi .tuple) "tuple") (.cons (.comp ce_body_told_1 (.attr (.lv 1) .clauses) .nil 0 ["row"]) .nil))
 (.ret (.tup (.cons (.meth (.lv 0) .kinds (.cons (.attr (.lv 1) .locals_) .nil)) (.cons (.lv 2) (.cons (.lv 3) (.cons (.lv 4) .nil))))) .nil))))
noncomputable def body_clause_path : S :=
 (.ite (.cmp .NotEq (.idx (.lv 1) (.const (.int 0))) (.gv (.int 0) "EC_CATCH"))
 (.ret (.call (.gv (.bi .tuple) "tuple") (.cons (.lv 1) .nil)) .nil)
 .nil
 (.ret (.bin .Add (.call (.gv (.bi .tuple) "tuple") (.cons (.upto (.lv 1) (.const (.int 5))) .nil)) (.tup (.cons (.meth (.lv 0) .kind (.cons (.idx (.lv 1) (.const (.int 5))) .nil)) .nil))) .nil))
noncomputable def body_operand_path : S :=
 (.ite (.boo false (.cons (.cmp .Eq (.lv 1) (.gv (.int 7) "SO_KIND")) (.cons (.cmp .Eq (.lv 1) (.gv (.int 11) "SO_TOKEN")) .nil)))
 (.ret (.meth (.lv 0) .kind (.cons (.lv 2) .nil)) .nil)
 .nil
 (.ite (.cmp .Eq (.lv 1) (.gv (.int 8) "SO_FIELD"))
 (.ret (.call (.gv (.fn .field_path) "field_path") (.cons (.lv 0) (.cons (.lv 2) .nil))) .nil)
 .nil
 (.ite (.cmp .Eq (.lv 1) (.gv (.int 9) "SO_METHOD"))
 (.ret (.call (.gv (.fn .method_path) "method_path") (.cons (.lv 0) (.cons (.lv 2) .nil))) .nil)
 .nil
 (.ite (.cmp .Eq (.lv 1) (.gv (.int 6) "SO_SWITCH"))
 (.ret (.call (.gv (.bi .tuple) "tuple") (.cons (.lv 2) .nil)) .nil)
 .nil
 (.ret (.lv 2) .nil)))))
noncomputable def body_law_draw : S :=
 (.set 2 (.idx (.lv 0) (.const (.str "at")))
 (.setI (.lv 0) (.const (.str "at")) (.bin .Add (.lv 2) (.const (.int 1)))
 (.set 3 (.call (.gv (.bi .len) "len") (.cons (.idx (.lv 0) (.const (.str "nums"))) .nil))
 (.ret (.bin .Mod (.bin .Add (.idx (.idx (.lv 0) (.const (.str "nums"))) (.bin .Mod (.lv 2) (.lv 3))) (.bin .Mult (.bin .FloorDiv (.lv 2) (.lv 3)) (.bin .Add (.bin .Mult (.const (.int 5)) (.lv 2)) (.const (.int 2))))) (.lv 1)) .nil))))
noncomputable def body_law_count : S :=
 (.ret (.ife (.cmp .Lt (.lv 1) (.const (.int 10))) (.idx (.idx (.idx (.lv 0) (.const (.str "types"))) (.lv 1)) (.const (.int 1))) (.idx (.tup (.cons (.const (.int 0)) (.cons (.const (.int 1)) (.cons (.const (.int 1)) (.cons (.const (.int 1)) .nil))))) (.bin .Sub (.lv 1) (.const (.int 10))))) .nil)
noncomputable def body_law_classes : S :=
 (.ret (.bin .Add (.call (.gv (.bi .list) "list") (.cons (.call (.gv (.bi .range) "range") (.cons (.call (.gv (.bi .len) "len") (.cons (.idx (.lv 0) (.const (.str "types"))) .nil)) .nil)) .nil)) (.list (.cons (.const (.int 10)) (.cons (.const (.int 11)) (.cons (.const (.int 12)) (.cons (.const (.int 13)) .nil)))))) .nil)
noncomputable def ce_law_class_0 : E := (.call (.gv (.fn .law_term) "_law_term") (.cons (.lv 0) (.cons (.lv 1) (.cons (.lv 2) (.cons (.lv 4) .nil)))))
noncomputable def body_law_class : S :=
 (.ret (.tup (.cons (.const (.str "c")) (.cons (.lv 3) (.cons (.call (.gv (.bi .tuple) "tuple") (.cons (.comp ce_law_class_0 (.call (.gv (.bi .range) "range") (.cons (.call (.gv (.fn .law_count) "_law_count") (.cons (.lv 1) (.cons (.lv 3) .nil))) .nil)) .nil 0 ["j"]) .nil)) .nil)))) .nil)
noncomputable def body_law_term : S :=
 (.set 4 (.call (.gv (.fn .law_draw) "_law_draw") (.cons (.lv 0) (.cons (.const (.int 8)) .nil)))
 (.ite (.cmp .Lt (.lv 4) (.const (.int 2)))
 (.ret (.tup (.cons (.const (.str "p")) (.cons (.idx (.tup (.cons (.const (.int 7)) (.cons (.const (.int 13)) .nil))) (.lv 4)) .nil))) .nil)
 .nil
 (.ite (.cmp .Eq (.lv 4) (.const (.int 2)))
 (.ret (.tup (.cons (.const (.str "M")) (.cons (.const (.int 0)) .nil))) .nil)
 .nil
 (.ite (.boo true (.cons (.cmp .Eq (.lv 4) (.const (.int 3))) (.cons (.cmp .Gt (.idx (.idx (.idx (.lv 1) (.const (.str "types"))) (.lv 2)) (.const (.int 1))) (.const (.int 0))) .nil)))
 (.ret (.tup (.cons (.const (.str "T")) (.cons (.bin .Sub (.idx (.idx (.idx (.lv 1) (.const (.str "types"))) (.lv 2)) (.const (.int 1))) (.const (.int 1))) .nil))) .nil)
 .nil
 (.ite (.boo false (.cons (.cmp .Eq (.lv 4) (.const (.int 3))) (.cons (.cmp .Eq (.lv 3) (.const (.int 0))) .nil)))
 (.ret (.tup (.cons (.const (.str "p")) (.cons (.bin .Add (.const (.int 5)) (.lv 4)) .nil))) .nil)
 .nil
 (.ite (.cmp .Eq (.lv 4) (.const (.int 4)))
 (.ret (.tup (.cons (.const (.str "a")) (.cons (.call (.gv (.fn .law_term) "_law_term") (.cons (.lv 0) (.cons (.lv 1) (.cons (.lv 2) (.cons (.bin .Sub (.lv 3) (.const (.int 1))) .nil))))) .nil))) .nil)
 .nil
 (.set 5 (.call (.gv (.fn .law_classes) "_law_classes") (.cons (.lv 1) .nil))
 (.ret (.call (.gv (.fn .law_class) "_law_class") (.cons (.lv 0) (.cons (.lv 1) (.cons (.lv 2) (.cons (.idx (.lv 5) (.call (.gv (.fn .law_draw) "_law_draw") (.cons (.lv 0) (.cons (.call (.gv (.bi .len) "len") (.cons (.lv 5) .nil)) .nil)))) (.cons (.bin .Sub (.lv 3) (.const (.int 1))) .nil)))))) .nil))))))))
noncomputable def ce_law_row_0 : E := (.call (.gv (.fn .law_term) "_law_term") (.cons (.lv 0) (.cons (.lv 1) (.cons (.lv 2) (.cons (.const (.int 2)) .nil)))))
noncomputable def body_law_row : S :=
 (.set 3 (.call (.gv (.fn .law_classes) "_law_classes") (.cons (.lv 1) .nil))
 (.set 4 (.call (.gv (.fn .law_class) "_law_class") (.cons (.lv 0) (.cons (.lv 1) (.cons (.lv 2) (.cons (.idx (.lv 3) (.call (.gv (.fn .law_draw) "_law_draw") (.cons (.lv 0) (.cons (.call (.gv (.bi .len) "len") (.cons (.lv 3) .nil)) .nil)))) (.cons (.const (.int 1)) .nil))))))
 (.set 5 (.bin .Sub (.const (.int 2)) (.call (.gv (.fn .law_draw) "_law_draw") (.cons (.lv 0) (.cons (.const (.int 2)) .nil))))
 (.ret (.tup (.cons (.call (.gv (.fn .law_draw) "_law_draw") (.cons (.lv 0) (.cons (.const (.int 3)) .nil))) (.cons (.lv 4) (.cons (.call (.gv (.bi .tuple) "tuple") (.cons (.comp ce_law_row_0 (.call (.gv (.bi .range) "range") (.cons (.lv 5) .nil)) .nil 0 ["j"]) .nil)) .nil)))) .nil))))
noncomputable def ce_law_described_0 : E := (.call (.gv (.fn .law_row) "_law_row") (.cons (.lv 0) (.cons (.lv 1) (.cons (.lv 2) .nil))))
noncomputable def lb_law_described_1 : S :=
 (.set 3 (.bin .Add (.call (.gv (.fn .law_draw) "_law_draw") (.cons (.lv 0) (.cons (.const (.int 2)) .nil))) (.ife (.cmp .Eq (.lv 2) (.const (.int 0))) (.const (.int 1)) (.const (.int 0))))
 (.expr (.meth (.idx (.lv 1) (.const (.str "code"))) .append (.cons (.comp ce_law_described_0 (.call (.gv (.bi .range) "range") (.cons (.lv 3) .nil)) .nil 0 ["j"]) .nil))
 .nil))
noncomputable def lk_law_described_1 : S :=
 (.ret (.lv 1) .nil)
noncomputable def lb_law_described_0 : S :=
 (.expr (.meth (.idx (.lv 1) (.const (.str "types"))) .append (.cons (.tup (.cons (.idx (.const (.str "AAB")) (.call (.gv (.fn .law_draw) "_law_draw") (.cons (.lv 0) (.cons (.const (.int 3)) .nil)))) (.cons (.call (.gv (.fn .law_draw) "_law_draw") (.cons (.lv 0) (.cons (.const (.int 3)) .nil))) .nil))) .nil))
 .nil)
noncomputable def lk_law_described_0 : S :=
 (.for' [2] false (.call (.gv (.bi .range) "range") (.cons (.call (.gv (.bi .len) "len") (.cons (.idx (.lv 1) (.const (.str "types"))) .nil)) .nil))
 lb_law_described_1
 lk_law_described_1)
noncomputable def body_law_described : S :=
 (.set 1 (.dict (.cons (.const (.str "name")) (.cons (.idx (.tup (.cons (.const (.str "app")) (.cons (.const (.str "apq")) (.cons (.const (.str "lib")) .nil)))) (.call (.gv (.fn .law_draw) "_law_draw") (.cons (.lv 0) (.cons (.const (.int 3)) .nil)))) (.cons (.const (.str "types")) (.cons (.list .nil) (.cons (.const (.str "code")) (.cons (.list .nil) .nil)))))))
 (.for' [2] false (.call (.gv (.bi .range) "range") (.cons (.bin .Add (.const (.int 1)) (.call (.gv (.fn .law_draw) "_law_draw") (.cons (.lv 0) (.cons (.const (.int 3)) .nil)))) .nil))
 lb_law_described_0
 lk_law_described_0))
noncomputable def body_law_other : S :=
 (.ite (.boo true (.cons (.cmp .Eq (.idx (.lv 2) (.const (.int 0))) (.const (.str "a"))) (.cons (.call (.gv (.fn .law_draw) "_law_draw") (.cons (.lv 0) (.cons (.const (.int 2)) .nil))) .nil)))
 (.ret (.tup (.cons (.const (.str "a")) (.cons (.call (.gv (.fn .law_other) "_law_other") (.cons (.lv 0) (.cons (.lv 1) (.cons (.idx (.lv 2) (.const (.int 1))) .nil)))) .nil))) .nil)
 .nil
 (.ite (.cmp .Eq (.idx (.lv 2) (.const (.int 0))) (.const (.str "c")))
 (.set 3 (.call (.gv (.fn .law_draw) "_law_draw") (.cons (.lv 0) (.cons (.const (.int 3)) .nil)))
 (.set 4 (.idx (.lv 2) (.const (.int 2)))
 (.ite (.boo true (.cons (.cmp .Eq (.lv 3) (.const (.int 0))) (.cons (.cmp .Gt (.call (.gv (.bi .len) "len") (.cons (.lv 4) .nil)) (.const (.int 0))) .nil)))
 (.set 5 (.call (.gv (.fn .law_draw) "_law_draw") (.cons (.lv 0) (.cons (.call (.gv (.bi .len) "len") (.cons (.lv 4) .nil)) .nil)))
 (.ret (.tup (.cons (.const (.str "c")) (.cons (.idx (.lv 2) (.const (.int 1))) (.cons (.bin .Add (.bin .Add (.upto (.lv 4) (.lv 5)) (.tup (.cons (.call (.gv (.fn .law_other) "_law_other") (.cons (.lv 0) (.cons (.lv 1) (.cons (.idx (.lv 4) (.lv 5)) .nil)))) .nil))) (.from' (.lv 4) (.bin .Add (.lv 5) (.const (.int 1))))) .nil)))) .nil))
 .nil
 (.ite (.cmp .Lt (.lv 3) (.const (.int 2)))
 (.ret (.call (.gv (.fn .law_elsewhere) "_law_elsewhere") (.cons (.lv 0) (.cons (.lv 1) (.cons (.lv 2) .nil)))) .nil)
 .nil
 .nil))))
 .nil
 (.ret (.ife (.cmp .Eq (.lv 2) (.tup (.cons (.const (.str "p")) (.cons (.const (.int 7)) .nil)))) (.tup (.cons (.const (.str "p")) (.cons (.const (.int 13)) .nil))) (.tup (.cons (.const (.str "p")) (.cons (.const (.int 7)) .nil)))) .nil)))
noncomputable def ce_law_elsewhere_0 : E := (.cv 0)
noncomputable def cc_law_elsewhere_0 : E := (.boo true (.cons (.cmp .NotEq (.cv 0) (.idx (.lv 2) (.const (.int 1)))) (.cons (.cmp .Eq (.call (.gv (.fn .law_count) "_law_count") (.cons (.lv 1) (.cons (.cv 0) .nil))) (.call (.gv (.bi .len) "len") (.cons (.idx (.lv 2) (.const (.int 2))) .nil))) .nil)))
noncomputable def body_law_elsewhere : S :=
 (.set 3 (.comp ce_law_elsewhere_0 (.call (.gv (.fn .law_classes) "_law_classes") (.cons (.lv 1) .nil)) cc_law_elsewhere_0 0 ["c"])
 (.ite (.cmp .Eq (.call (.gv (.bi .len) "len") (.cons (.lv 3) .nil)) (.const (.int 0)))
 (.ret (.tup (.cons (.const (.str "p")) (.cons (.const (.int 7)) .nil))) .nil)
 .nil
 (.ret (.tup (.cons (.const (.str "c")) (.cons (.idx (.lv 3) (.call (.gv (.fn .law_draw) "_law_draw") (.cons (.lv 0) (.cons (.call (.gv (.bi .len) "len") (.cons (.lv 3) .nil)) .nil)))) (.cons (.idx (.lv 2) (.const (.int 2))) .nil)))) .nil)))
noncomputable def body_law_margs : S :=
 (.setT [4, 5, 6] (.idx (.lv 2) (.lv 3))
 (.set 7 (.call (.gv (.fn .law_draw) "_law_draw") (.cons (.lv 0) (.cons (.call (.gv (.bi .len) "len") (.cons (.lv 6) .nil)) .nil)))
 (.setI (.lv 2) (.lv 3) (.tup (.cons (.lv 4) (.cons (.lv 5) (.cons (.bin .Add (.bin .Add (.upto (.lv 6) (.lv 7)) (.tup (.cons (.call (.gv (.fn .law_other) "_law_other") (.cons (.lv 0) (.cons (.lv 1) (.cons (.idx (.lv 6) (.lv 7)) .nil)))) .nil))) (.from' (.lv 6) (.bin .Add (.lv 7) (.const (.int 1))))) .nil))))
 .nil)))
noncomputable def body_law_call : S :=
 (.set 3 (.idx (.idx (.lv 1) (.const (.str "code"))) (.call (.gv (.fn .law_draw) "_law_draw") (.cons (.lv 0) (.cons (.call (.gv (.bi .len) "len") (.cons (.idx (.lv 1) (.const (.str "code"))) .nil)) .nil))))
 (.ite (.cmp .Eq (.call (.gv (.bi .len) "len") (.cons (.lv 3) .nil)) (.const (.int 0)))
 (.set 3 (.idx (.idx (.lv 1) (.const (.str "code"))) (.const (.int 0)))
 .nil)
 .nil
 (.set 4 (.call (.gv (.fn .law_draw) "_law_draw") (.cons (.lv 0) (.cons (.call (.gv (.bi .len) "len") (.cons (.lv 3) .nil)) .nil)))
 (.setT [5, 6, 7] (.idx (.lv 3) (.lv 4))
 (.ite (.cmp .Eq (.lv 2) (.const (.int 1)))
 (.expr (.call (.gv (.fn .law_margs) "_law_margs") (.cons (.lv 0) (.cons (.lv 1) (.cons (.lv 3) (.cons (.lv 4) .nil)))))
 .nil)
 .nil
 (.ite (.cmp .Eq (.lv 2) (.const (.int 2)))
 (.setI (.lv 3) (.lv 4) (.tup (.cons (.lv 5) (.cons (.lv 6) (.cons (.rev (.lv 7)) .nil))))
 .nil)
 .nil
 (.ite (.boo true (.cons (.cmp .Eq (.lv 2) (.const (.int 3))) (.cons (.cmp .Gt (.call (.gv (.bi .len) "len") (.cons (.idx (.lv 6) (.const (.int 2))) .nil)) (.const (.int 0))) .nil)))
 (.setI (.lv 3) (.lv 4) (.tup (.cons (.lv 5) (.cons (.tup (.cons (.const (.str "c")) (.cons (.idx (.lv 6) (.const (.int 1))) (.cons (.bin .Add (.upto (.lv 7) (.const (.int 1))) (.from' (.idx (.lv 6) (.const (.int 2))) (.const (.int 1)))) .nil)))) (.cons (.bin .Add (.upto (.idx (.lv 6) (.const (.int 2))) (.const (.int 1))) (.from' (.lv 7) (.const (.int 1)))) .nil))))
 .nil)
 .nil
 (.ite (.cmp .Eq (.lv 2) (.const (.int 4)))
 (.set 8 (.call (.gv (.fn .law_elsewhere) "_law_elsewhere") (.cons (.lv 0) (.cons (.lv 1) (.cons (.lv 6) .nil))))
 (.setI (.lv 3) (.lv 4) (.tup (.cons (.lv 5) (.cons (.ife (.cmp .Eq (.idx (.lv 8) (.const (.int 0))) (.const (.str "c"))) (.lv 8) (.lv 6)) (.cons (.lv 7) .nil))))
 .nil))
 .nil
 (.ite (.cmp .Eq (.lv 2) (.const (.int 5)))
 (.setI (.lv 3) (.lv 4) (.tup (.cons (.bin .Mod (.bin .Add (.lv 5) (.const (.int 1))) (.const (.int 3))) (.cons (.lv 6) (.cons (.lv 7) .nil))))
 .nil)
 .nil
 (.ite (.cmp .Eq (.lv 2) (.const (.int 6)))
 (.setI (.idx (.lv 1) (.const (.str "code"))) (.const (.int 0)) (.rev (.idx (.idx (.lv 1) (.const (.str "code"))) (.const (.int 0))))
 .nil)
 .nil
 .nil))))))))))
noncomputable def body_law_turn : S :=
 (.ite (.cmp .Eq (.lv 2) (.const (.int 7)))
 (.setI (.lv 1) (.const (.str "name")) (.ife (.cmp .Eq (.idx (.lv 1) (.const (.str "name"))) (.const (.str "app"))) (.const (.str "apq")) (.const (.str "app")))
 .nil)
 (.ite (.cmp .Eq (.lv 2) (.const (.int 8)))
 (.set 3 (.call (.gv (.fn .law_draw) "_law_draw") (.cons (.lv 0) (.cons (.call (.gv (.bi .len) "len") (.cons (.idx (.lv 1) (.const (.str "types"))) .nil)) .nil)))
 (.setT [4, 5] (.idx (.idx (.lv 1) (.const (.str "types"))) (.lv 3))
 (.setI (.idx (.lv 1) (.const (.str "types"))) (.lv 3) (.tup (.cons (.ife (.cmp .Eq (.lv 4) (.const (.str "A"))) (.const (.str "B")) (.const (.str "A"))) (.cons (.lv 5) .nil)))
 .nil)))
 (.ite (.cmp .Eq (.lv 2) (.const (.int 9)))
 (.expr (.meth (.idx (.lv 1) (.const (.str "types"))) .append (.cons (.tup (.cons (.idx (.const (.str "AB")) (.call (.gv (.fn .law_draw) "_law_draw") (.cons (.lv 0) (.cons (.const (.int 2)) .nil)))) (.cons (.const (.int 0)) .nil))) .nil))
 (.expr (.meth (.idx (.lv 1) (.const (.str "code"))) .append (.cons (.list .nil) .nil))
 .nil))
 (.ite (.cmp .Gt (.lv 2) (.const (.int 0)))
 (.expr (.call (.gv (.fn .law_call) "_law_call") (.cons (.lv 0) (.cons (.lv 1) (.cons (.lv 2) .nil))))
 .nil)
 .nil
 .nil)
 .nil)
 .nil)
 .nil)
noncomputable def ce_law_changed_0 : E := (.all (.cv 0))
noncomputable def body_law_changed : S :=
 (.set 3 (.dict (.cons (.const (.str "name")) (.cons (.idx (.lv 1) (.const (.str "name"))) (.cons (.const (.str "types")) (.cons (.all (.idx (.lv 1) (.const (.str "types")))) (.cons (.const (.str "code")) (.cons (.comp ce_law_changed_0 (.idx (.lv 1) (.const (.str "code"))) .nil 0 ["rows"]) .nil)))))))
 (.expr (.call (.gv (.fn .law_turn) "_law_turn") (.cons (.lv 0) (.cons (.lv 3) (.cons (.lv 2) .nil))))
 (.ret (.lv 3) .nil)))
noncomputable def body_law_alike : S :=
 (.ret (.boo true (.cons (.cmp .Eq (.idx (.lv 0) (.const (.str "name"))) (.idx (.lv 1) (.const (.str "name")))) (.cons (.cmp .Eq (.idx (.lv 0) (.const (.str "types"))) (.idx (.lv 1) (.const (.str "types")))) (.cons (.cmp .Eq (.idx (.lv 0) (.const (.str "code"))) (.idx (.lv 1) (.const (.str "code")))) .nil)))) .nil)
noncomputable def ce_law_kind_0 : E := (.call (.gv (.fn .law_kind) "_law_kind") (.cons (.lv 0) (.cons (.lv 1) (.cons (.cv 0) .nil))))
noncomputable def body_law_kind : S :=
 (.ite (.cmp .Eq (.idx (.lv 2) (.const (.int 0))) (.const (.str "p")))
 (.ret (.idx (.lv 2) (.const (.int 1))) .nil)
 .nil
 (.ite (.cmp .Eq (.idx (.lv 2) (.const (.int 0))) (.const (.str "T")))
 (.ret (.call (.gv (.fn .var_kind) "var_kind") (.cons (.lv 0) (.cons (.idx (.lv 2) (.const (.int 1))) .nil))) .nil)
 .nil
 (.ite (.cmp .Eq (.idx (.lv 2) (.const (.int 0))) (.const (.str "M")))
 (.ret (.call (.gv (.fn .mvar_kind) "mvar_kind") (.cons (.lv 0) (.cons (.idx (.lv 2) (.const (.int 1))) .nil))) .nil)
 .nil
 (.ite (.cmp .Eq (.idx (.lv 2) (.const (.int 0))) (.const (.str "a")))
 (.ret (.call (.gv (.fn .array_kind) "array_kind") (.cons (.lv 0) (.cons (.call (.gv (.fn .law_kind) "_law_kind") (.cons (.lv 0) (.cons (.lv 1) (.cons (.idx (.lv 2) (.const (.int 1))) .nil)))) .nil))) .nil)
 .nil
 (.ret (.call (.gv (.fn .class_kind) "class_kind") (.cons (.lv 0) (.cons (.idx (.lv 1) (.idx (.lv 2) (.const (.int 1)))) (.cons (.call (.gv (.bi .tuple) "tuple") (.cons (.comp ce_law_kind_0 (.idx (.lv 2) (.const (.int 2))) .nil 0 ["arg"]) .nil)) .nil)))) .nil)))))
noncomputable def lb_law_type_0 : S :=
 (.set 8 (.call (.gv (.fn .add_method) "add_method") (.cons (.lv 5) (.cons (.lv 6) (.cons (.const (.str "g")) (.cons (.const (.int 6)) (.cons (.const (.int 0)) (.cons (.const (.int 0)) (.cons (.tup .nil) .nil))))))))
 (.expr (.call (.gv (.fn .set_generic) "set_generic") (.cons (.lv 5) (.cons (.lv 8) (.cons (.upto (.list (.cons (.const (.str "V")) (.cons (.const (.str "W")) .nil))) (.lv 7)) (.cons (.list .nil) .nil)))))
 (.setI (.idx (.lv 0) (.const (.str "mids"))) (.tup (.cons (.lv 2) (.cons (.lv 7) .nil))) (.lv 8)
 .nil)))
noncomputable def body_law_type : S :=
 (.set 5 (.idx (.lv 0) (.const (.str "store")))
 (.set 6 (.call (.gv (.fn .add_type) "add_type") (.cons (.lv 5) (.cons (.lv 1) (.cons (.lv 3) (.cons (.const (.int 1)) (.cons (.const (.int 0)) (.cons (.const (.int 12)) (.cons (.upto (.list (.cons (.const (.str "T")) (.cons (.const (.str "U")) .nil))) (.lv 4)) .nil))))))))
 (.setI (.idx (.lv 0) (.const (.str "tids"))) (.lv 2) (.lv 6)
 (.for' [7] false (.tup (.cons (.const (.int 1)) (.cons (.const (.int 2)) .nil)))
 lb_law_type_0
 .nil))))
noncomputable def lb_law_world_0 : S :=
 (.expr (.call (.gv (.fn .law_type) "_law_type") (.cons (.lv 3) (.cons (.ife (.cmp .Eq (.lv 6) (.const (.int 12))) (.const (.int 0)) (.lv 5)) (.cons (.lv 6) (.cons (.const (.str "A")) (.cons (.idx (.tup (.cons (.const (.int 0)) (.cons (.const (.int 1)) (.cons (.const (.int 1)) .nil)))) (.bin .Sub (.lv 6) (.const (.int 10)))) .nil))))))
 .nil)
noncomputable def lk_law_world_0 : S :=
 (.ret (.lv 3) .nil)
noncomputable def body_law_world : S :=
 (.set 2 (.call (.gv (.cls .Store) "Store") .nil)
 (.expr (.meth (.attr (.lv 2) .asms) .append (.cons (.const (.str "core")) .nil))
 (.setA (.lv 2) .types' (.bin .Mult (.list (.cons (.const .none) .nil)) (.const (.int 64)))
 (.setA (.lv 2) .methods (.bin .Mult (.list (.cons (.const .none) .nil)) (.const (.int 4)))
 (.set 3 (.dict (.cons (.const (.str "store")) (.cons (.lv 2) (.cons (.const (.str "tids")) (.cons (.dict (.cons (.const (.int 13)) (.cons (.const (.int 37)) .nil))) (.cons (.const (.str "mids")) (.cons (.dict (.cons (.tup (.cons (.const (.int 13)) (.cons (.const (.int 1)) .nil))) (.cons (.const (.int 2)) (.cons (.tup (.cons (.const (.int 13)) (.cons (.const (.int 2)) .nil))) (.cons (.const (.int 3)) .nil))))) .nil)))))))
 (.ite (.cmp .Gt (.lv 1) (.const (.int 0)))
 (.set 4 (.call (.gv (.fn .add_type) "add_type") (.cons (.lv 2) (.cons (.call (.gv (.fn .new_asm) "new_asm") (.cons (.lv 2) (.cons (.const (.str "junk")) .nil))) (.cons (.const (.str "A")) (.cons (.const (.int 1)) (.cons (.const (.int 0)) (.cons (.const (.int 12)) (.cons (.list (.cons (.const (.str "T")) .nil)) .nil))))))))
 (.expr (.call (.gv (.fn .add_method) "add_method") (.cons (.lv 2) (.cons (.lv 4) (.cons (.const (.str "g")) (.cons (.const (.int 6)) (.cons (.const (.int 0)) (.cons (.call (.gv (.fn .class_kind) "class_kind") (.cons (.attr (.lv 2) .kt) (.cons (.lv 4) (.cons (.tup (.cons (.const (.int 13)) .nil)) .nil)))) (.cons (.tup .nil) .nil))))))))
 .nil))
 .nil
 (.set 5 (.call (.gv (.fn .new_asm) "new_asm") (.cons (.lv 2) (.cons (.lv 0) .nil)))
 (.for' [6] false (.idx (.tup (.cons (.tup (.cons (.const (.int 10)) (.cons (.const (.int 11)) (.cons (.const (.int 12)) .nil)))) (.cons (.tup (.cons (.const (.int 12)) (.cons (.const (.int 10)) (.cons (.const (.int 11)) .nil)))) (.cons (.tup (.cons (.const (.int 11)) (.cons (.const (.int 12)) (.cons (.const (.int 10)) .nil)))) .nil)))) (.lv 1))
 lb_law_world_0
 lk_law_world_0))))))))
noncomputable def ce_law_lay_0 : E := (.call (.gv (.fn .law_kind) "_law_kind") (.cons (.attr (.lv 3) .kt) (.cons (.idx (.lv 0) (.const (.str "tids"))) (.cons (.cv 0) .nil))))
noncomputable def lb_law_lay_2 : S :=
 (.set 10 (.idx (.idx (.lv 0) (.const (.str "mids"))) (.tup (.cons (.idx (.lv 8) (.const (.int 1))) (.cons (.call (.gv (.bi .len) "len") (.cons (.lv 9) .nil)) .nil))))
 (.set 11 (.call (.gv (.bi .tuple) "tuple") (.cons (.comp ce_law_lay_0 (.lv 9) .nil 0 ["arg"]) .nil))
 (.expr (.meth (.lv 6) .append (.cons (.tup (.cons (.idx (.tup (.cons (.const (.int 40)) (.cons (.const (.int 111)) (.cons (.const (.int 65030)) .nil)))) (.lv 7)) (.cons (.tup (.cons (.call (.gv (.fn .law_kind) "_law_kind") (.cons (.attr (.lv 3) .kt) (.cons (.idx (.lv 0) (.const (.str "tids"))) (.cons (.lv 8) .nil)))) (.cons (.lv 10) (.cons (.lv 11) .nil)))) .nil))) .nil))
 .nil)))
noncomputable def lk_law_lay_2 : S :=
 (.expr (.call (.gv (.fn .set_body) "set_body") (.cons (.lv 3) (.cons (.idx (.idx (.lv 0) (.const (.str "mids"))) (.tup (.cons (.lv 5) (.cons (.const (.int 1)) .nil)))) (.cons (.tup .nil) (.cons (.const (.int 8)) (.cons (.bin .Add (.lv 6) (.list (.cons (.tup (.cons (.const (.int 42)) (.cons (.const (.int 0)) .nil))) .nil))) (.cons (.list .nil) .nil)))))))
 .nil)
noncomputable def lb_law_lay_1 : S :=
 (.set 6 (.list .nil)
 (.for' [7, 8, 9] true (.idx (.idx (.lv 1) (.const (.str "code"))) (.lv 5))
 lb_law_lay_2
 lk_law_lay_2))
noncomputable def lk_law_lay_1 : S :=
 (.ret (.lv 4) .nil)
noncomputable def lb_law_lay_0 : S :=
 (.expr (.call (.gv (.fn .law_type) "_law_type") (.cons (.lv 0) (.cons (.lv 4) (.cons (.lv 5) (.cons (.idx (.idx (.idx (.lv 1) (.const (.str "types"))) (.lv 5)) (.const (.int 0))) (.cons (.idx (.idx (.idx (.lv 1) (.const (.str "types"))) (.lv 5)) (.const (.int 1))) .nil))))))
 (.ite (.lv 2)
 (.expr (.call (.gv (.fn .add_type) "add_type") (.cons (.lv 3) (.cons (.const (.int 0)) (.cons (.const (.str "A")) (.cons (.const (.int 1)) (.cons (.const (.int 0)) (.cons (.const (.int 12)) (.cons (.list .nil) .nil))))))))
 .nil)
 .nil
 .nil))
noncomputable def lk_law_lay_0 : S :=
 (.for' [5] false (.call (.gv (.bi .range) "range") (.cons (.call (.gv (.bi .len) "len") (.cons (.idx (.lv 1) (.const (.str "types"))) .nil)) .nil))
 lb_law_lay_1
 lk_law_lay_1)
noncomputable def body_law_lay : S :=
 (.set 3 (.idx (.lv 0) (.const (.str "store")))
 (.set 4 (.call (.gv (.fn .new_asm) "new_asm") (.cons (.lv 3) (.cons (.idx (.lv 1) (.const (.str "name"))) .nil)))
 (.for' [5] false (.call (.gv (.bi .range) "range") (.cons (.call (.gv (.bi .len) "len") (.cons (.idx (.lv 1) (.const (.str "types"))) .nil)) .nil))
 lb_law_lay_0
 lk_law_lay_0)))
noncomputable def body_law_ask : S :=
 (.ite (.call (.gv (.fn .law_draw) "_law_draw") (.cons (.lv 0) (.cons (.const (.int 2)) .nil)))
 (.ret (.call (.gv (.fn .same_defs) "same_defs") (.cons (.idx (.lv 3) (.const (.str "store"))) (.cons (.lv 4) (.cons (.idx (.lv 1) (.const (.str "store"))) (.cons (.lv 2) .nil))))) .nil)
 .nil
 (.ret (.call (.gv (.fn .same_defs) "same_defs") (.cons (.idx (.lv 1) (.const (.str "store"))) (.cons (.lv 2) (.cons (.idx (.lv 3) (.const (.str "store"))) (.cons (.lv 4) .nil))))) .nil))
noncomputable def ce_law_0 : E := (.bin .Mod (.cv 0) (.const (.int 1000003)))
noncomputable def body_law : S :=
 (.set 1 (.comp ce_law_0 (.upto (.lv 0) (.const (.int 48))) .nil 0 ["n"])
 (.ite (.cmp .Eq (.call (.gv (.bi .len) "len") (.cons (.lv 1) .nil)) (.const (.int 0)))
 (.set 1 (.list (.cons (.const (.int 0)) (.cons (.const (.int 1)) (.cons (.const (.int 2)) (.cons (.const (.int 0)) (.cons (.const (.int 1)) (.cons (.const (.int 1)) (.cons (.const (.int 0)) (.cons (.const (.int 3)) (.cons (.const (.int 1)) (.cons (.const (.int 2)) (.cons (.const (.int 5)) .nil))))))))))))
 .nil)
 .nil
 (.set 2 (.dict (.cons (.const (.str "nums")) (.cons (.lv 1) (.cons (.const (.str "at")) (.cons (.const (.int 0)) .nil)))))
 (.set 3 (.idx (.tup (.cons (.const (.str "lib")) (.cons (.const (.str "app")) .nil))) (.call (.gv (.fn .law_draw) "_law_draw") (.cons (.lv 2) (.cons (.const (.int 2)) .nil))))
 (.set 4 (.call (.gv (.fn .law_world) "_law_world") (.cons (.lv 3) (.cons (.const (.int 0)) .nil)))
 (.set 5 (.call (.gv (.fn .law_world) "_law_world") (.cons (.lv 3) (.cons (.bin .Add (.const (.int 1)) (.call (.gv (.fn .law_draw) "_law_draw") (.cons (.lv 2) (.cons (.const (.int 2)) .nil)))) .nil)))
 (.set 6 (.call (.gv (.fn .law_described) "_law_described") (.cons (.lv 2) .nil))
 (.set 7 (.call (.gv (.fn .law_changed) "_law_changed") (.cons (.lv 2) (.cons (.lv 6) (.cons (.const (.int 1)) .nil))))
 (.set 8 (.call (.gv (.fn .law_changed) "_law_changed") (.cons (.lv 2) (.cons (.lv 6) (.cons (.call (.gv (.fn .law_draw) "_law_draw") (.cons (.lv 2) (.cons (.const (.int 10)) .nil))) .nil))))
 (.set 9 (.call (.gv (.fn .law_lay) "_law_lay") (.cons (.lv 4) (.cons (.lv 6) (.cons (.const (.int 0)) .nil))))
 (.set 10 (.call (.gv (.fn .law_lay) "_law_lay") (.cons (.lv 5) (.cons (.lv 6) (.cons (.const (.int 1)) .nil))))
 (.set 11 (.call (.gv (.fn .law_lay) "_law_lay") (.cons (.lv 5) (.cons (.lv 7) (.cons (.call (.gv (.fn .law_draw) "_law_draw") (.cons (.lv 2) (.cons (.const (.int 2)) .nil))) .nil))))
 (.set 12 (.call (.gv (.fn .law_lay) "_law_lay") (.cons (.lv 5) (.cons (.lv 8) (.cons (.call (.gv (.fn .law_draw) "_law_draw") (.cons (.lv 2) (.cons (.const (.int 2)) .nil))) .nil))))
 (.ite (.boo false (.cons (.not (.call (.gv (.fn .law_ask) "_law_ask") (.cons (.lv 2) (.cons (.lv 4) (.cons (.lv 9) (.cons (.lv 5) (.cons (.lv 10) .nil))))))) (.cons (.cmp .NotEq (.call (.gv (.fn .law_ask) "_law_ask") (.cons (.lv 2) (.cons (.lv 4) (.cons (.lv 9) (.cons (.lv 5) (.cons (.lv 11) .nil)))))) (.call (.gv (.fn .law_alike) "_law_alike") (.cons (.lv 6) (.cons (.lv 7) .nil)))) .nil)))
 (.ret (.const (.bool false)) .nil)
 .nil
 (.ite (.cmp .NotEq (.call (.gv (.fn .law_ask) "_law_ask") (.cons (.lv 2) (.cons (.lv 5) (.cons (.lv 10) (.cons (.lv 5) (.cons (.lv 12) .nil)))))) (.call (.gv (.fn .law_alike) "_law_alike") (.cons (.lv 6) (.cons (.lv 8) .nil))))
 (.ret (.const (.bool false)) .nil)
 .nil
 (.ret (.cmp .Eq (.call (.gv (.fn .law_ask) "_law_ask") (.cons (.lv 2) (.cons (.lv 5) (.cons (.lv 11) (.cons (.lv 5) (.cons (.lv 12) .nil)))))) (.call (.gv (.fn .law_alike) "_law_alike") (.cons (.lv 7) (.cons (.lv 8) .nil)))) .nil))))))))))))))))
noncomputable def frs : List FnRec := [
 ⟨1, ["self", "number", "row"], body_KindTable_init⟩,
 ⟨2, ["self", "k"], body_KindTable_row⟩,
 ⟨2, ["self", "row", "found", "depth", "weight", "opened", "level", "inner", "k"], body_KindTable_put⟩,
 ⟨1, ["row", "sort"], body_inner_kinds⟩,
 ⟨1, ["sort"], body_row_level⟩,
 ⟨1, ["sort"], body_row_length⟩,
 ⟨2, ["kt", "row", "sort", "inner"], body_check_kind_row⟩,
 ⟨2, ["kt", "row"], body_check_named⟩,
 ⟨2, ["kt", "args", "arg"], body_check_args⟩,
 ⟨2, ["kt", "k", "sort"], body_may_stand⟩,
 ⟨3, ["kt", "tid", "args"], body_class_kind⟩,
 ⟨2, ["tid", "args"], body_prim_kind⟩,
 ⟨2, ["kt", "elem"], body_array_kind⟩,
 ⟨2, ["kt", "i"], body_var_kind⟩,
 ⟨2, ["kt", "i"], body_mvar_kind⟩,
 ⟨2, ["kt", "k"], body_is_value⟩,
 ⟨2, ["kt", "k", "sort"], body_is_var⟩,
 ⟨1, ["op"], body_op_sort⟩,
 ⟨8, ["self", "tid", "name", "sort", "flags", "base", "params", "asm", "word"], body_TypeDef_init⟩,
 ⟨8, ["self", "mid", "owner", "name", "access", "flags", "ret", "params"], body_MethodDef_init⟩,
 ⟨5, ["self", "locals_", "maxstack", "code", "clauses"], body_Body_init⟩,
 ⟨1, ["self"], body_Store_init⟩,
 ⟨1, ["count", "out", "place"], body_plain_names⟩,
 ⟨2, ["store", "name"], body_new_asm⟩,
 ⟨2, ["store", "sort"], body_usual_base⟩,
 ⟨2, ["sort", "flags"], body_sort_flags⟩,
 ⟨7, ["store", "asm", "name", "sort", "flags", "base", "params", "tid", "key"], body_add_type⟩,
 ⟨1, ["flags"], body_kept_flags⟩,
 ⟨7, ["store", "tid", "name", "access", "flags", "ret", "params", "t", "mid"], body_add_method⟩,
 ⟨2, ["store", "mid", "m", "t"], body_note_method⟩,
 ⟨4, ["store", "mid", "gnames", "gbounds", "m", "place"], body_set_generic⟩,
 ⟨6, ["store", "mid", "locals_", "maxstack", "code", "clauses", "rows", "ins", "edges", "clause"], body_set_body⟩,
 ⟨1, ["m"], body_is_virtual⟩,
 ⟨4, ["self", "store", "own", "index", "place"], body_Paths_init⟩,
 ⟨2, ["self", "k"], body_Paths_kind⟩,
 ⟨2, ["self", "ks"], body_Paths_kinds⟩,
 ⟨4, ["store1", "asm1", "store2", "asm2", "own1", "own2", "index", "paths1", "paths2", "place"], body_same_defs⟩,
 ⟨2, ["store", "asm"], body_asm_name⟩,
 ⟨2, ["store", "asm"], body_own_types⟩,
 ⟨3, ["rows", "n", "word"], body_standing⟩,
 ⟨2, ["paths", "tid", "t", "out"], body_type_path⟩,
 ⟨2, ["paths", "k", "todo", "at", "inner", "path"], body_learn_kind⟩,
 ⟨2, ["paths", "k"], body_path_parts⟩,
 ⟨2, ["paths", "k", "row"], body_kind_path⟩,
 ⟨2, ["paths", "mref", "owner", "mid", "margs"], body_method_path⟩,
 ⟨2, ["paths", "mid", "m"], body_method_name⟩,
 ⟨2, ["paths", "fref", "f"], body_field_path⟩,
 ⟨2, ["paths", "mid", "m", "owner"], body_member_name⟩,
 ⟨2, ["paths", "bounds"], body_bound_rows⟩,
 ⟨2, ["paths", "tid", "t", "head", "generic", "fields", "methods", "impls", "props", "events", "laid"], body_type_told⟩,
 ⟨2, ["paths", "fid", "f"], body_field_told⟩,
 ⟨2, ["paths", "mid", "m", "head", "sig"], body_method_told⟩,
 ⟨2, ["paths", "body", "deep", "code", "clauses"], body_body_told⟩,
 ⟨2, ["paths", "row"], body_clause_path⟩,
 ⟨3, ["paths", "sort", "operand"], body_operand_path⟩,
 ⟨2, ["w", "n", "i", "k"], body_law_draw⟩,
 ⟨2, ["d", "c"], body_law_count⟩,
 ⟨1, ["d"], body_law_classes⟩,
 ⟨5, ["w", "d", "t", "c", "deep"], body_law_class⟩,
 ⟨4, ["w", "d", "t", "deep", "n", "rows"], body_law_term⟩,
 ⟨3, ["w", "d", "t", "rows", "owner", "many"], body_law_row⟩,
 ⟨1, ["w", "d", "t", "many"], body_law_described⟩,
 ⟨3, ["w", "d", "term", "n", "args", "j"], body_law_other⟩,
 ⟨3, ["w", "d", "term", "rows"], body_law_elsewhere⟩,
 ⟨4, ["w", "d", "rows", "i", "op", "owner", "margs", "j"], body_law_margs⟩,
 ⟨3, ["w", "d", "way", "rows", "i", "op", "owner", "margs", "term"], body_law_call⟩,
 ⟨3, ["w", "d", "way", "t", "name", "count"], body_law_turn⟩,
 ⟨3, ["w", "d", "way", "c"], body_law_changed⟩,
 ⟨2, ["c", "d"], body_law_alike⟩,
 ⟨3, ["kt", "tids", "term"], body_law_kind⟩,
 ⟨5, ["s", "asm", "c", "name", "count", "store", "tid", "many", "mid"], body_law_type⟩,
 ⟨2, ["name", "turn", "store", "s", "junk", "lib", "c"], body_law_world⟩,
 ⟨3, ["s", "d", "between", "store", "app", "t", "code", "op", "owner", "margs", "mid", "own"], body_law_lay⟩,
 ⟨5, ["w", "a", "x", "b", "y"], body_law_ask⟩,
 ⟨1, ["script", "nums", "w", "name", "a", "b", "d", "third", "fourth", "x", "y", "u", "v"], body_law⟩
]
noncomputable def Fn.fr (f : Fn) : FnRec := frs.getD f ⟨0, [], .nil⟩
noncomputable def globs : List (String × V) := [
 ("range", (.bi .range)),
 ("PRIM_END", (.int 16)),
 ("R_PRIM", (.int 1)),
 ("len", (.bi .len)),
 ("HEAVIEST_KIND", (.int 4096)),
 ("DEEPEST_KIND", (.int 24)),
 ("inner_kinds", (.fn .inner_kinds)),
 ("row_level", (.fn .row_level)),
 ("R_MVAR", (.int 7)),
 ("R_VAR", (.int 6)),
 ("check_kind_row", (.fn .check_kind_row)),
 ("R_FTN", (.int 10)),
 ("R_RAW", (.int 11)),
 ("R_ROREF", (.int 9)),
 ("R_BOXED", (.int 8)),
 ("R_BYREF", (.int 5)),
 ("R_ARRAY", (.int 4)),
 ("R_VALUE", (.int 3)),
 ("R_CLASS", (.int 2)),
 ("check_named", (.fn .check_named)),
 ("check_args", (.fn .check_args)),
 ("may_stand", (.fn .may_stand)),
 ("is_var", (.fn .is_var)),
 ("is_value", (.fn .is_value)),
 ("row_length", (.fn .row_length)),
 ("TID_PRIM", (.tbl .TID_PRIM)),
 ("NULLK", (.int 14)),
 ("VOID", (.int 0)),
 ("prim_kind", (.fn .prim_kind)),
 ("NINT", (.int 11)),
 ("BOOL", (.int 1)),
 ("OP_SORT", (.tbl .OP_SORT)),
 ("VA_NONE", (.int 0)),
 ("plain_names", (.fn .plain_names)),
 ("tuple", (.bi .tuple)),
 ("KindTable", (.cls .KindTable)),
 ("str", (.bi .str)),
 ("S_DELEGATE", (.int 4)),
 ("class_kind", (.fn .class_kind)),
 ("T_DELEGATE", (.int 6)),
 ("S_ENUM", (.int 5)),
 ("T_ENUM", (.int 3)),
 ("S_STRUCT", (.int 2)),
 ("T_VALUETYPE", (.int 2)),
 ("TF_SEALED", (.int 2)),
 ("S_CLASS", (.int 1)),
 ("S_IFACE", (.int 3)),
 ("TF_ABSTRACT", (.int 1)),
 ("TypeDef", (.cls .TypeDef)),
 ("sort_flags", (.fn .sort_flags)),
 ("usual_base", (.fn .usual_base)),
 ("MF_SPECIAL", (.int 128)),
 ("MF_CTOR", (.int 32)),
 ("MF_CCTOR", (.int 64)),
 ("note_method", (.fn .note_method)),
 ("MethodDef", (.cls .MethodDef)),
 ("kept_flags", (.fn .kept_flags)),
 ("is_virtual", (.fn .is_virtual)),
 ("MF_NEWSLOT", (.int 4)),
 ("T_OBJECT", (.int 1)),
 ("Body", (.cls .Body)),
 ("MF_VIRTUAL", (.int 2)),
 ("learn_kind", (.fn .learn_kind)),
 ("type_told", (.fn .type_told)),
 ("Paths", (.cls .Paths)),
 ("own_types", (.fn .own_types)),
 ("asm_name", (.fn .asm_name)),
 ("standing", (.fn .standing)),
 ("kind_path", (.fn .kind_path)),
 ("path_parts", (.fn .path_parts)),
 ("type_path", (.fn .type_path)),
 ("method_name", (.fn .method_name)),
 ("MF_STATIC", (.int 1)),
 ("member_name", (.fn .member_name)),
 ("method_path", (.fn .method_path)),
 ("method_told", (.fn .method_told)),
 ("field_told", (.fn .field_told)),
 ("bound_rows", (.fn .bound_rows)),
 ("body_told", (.fn .body_told)),
 ("clause_path", (.fn .clause_path)),
 ("operand_path", (.fn .operand_path)),
 ("op_sort", (.fn .op_sort)),
 ("LEAST_DEEP", (.int 8)),
 ("EC_CATCH", (.int 0)),
 ("SO_SWITCH", (.int 6)),
 ("SO_METHOD", (.int 9)),
 ("SO_FIELD", (.int 8)),
 ("field_path", (.fn .field_path)),
 ("SO_TOKEN", (.int 11)),
 ("SO_KIND", (.int 7)),
 ("list", (.bi .list)),
 ("_law_count", (.fn .law_count)),
 ("_law_term", (.fn .law_term)),
 ("_law_class", (.fn .law_class)),
 ("_law_draw", (.fn .law_draw)),
 ("_law_classes", (.fn .law_classes)),
 ("_law_row", (.fn .law_row)),
 ("_law_elsewhere", (.fn .law_elsewhere)),
 ("_law_other", (.fn .law_other)),
 ("_law_margs", (.fn .law_margs)),
 ("_law_call", (.fn .law_call)),
 ("_law_turn", (.fn .law_turn)),
 ("_law_kind", (.fn .law_kind)),
 ("array_kind", (.fn .array_kind)),
 ("mvar_kind", (.fn .mvar_kind)),
 ("var_kind", (.fn .var_kind)),
 ("set_generic", (.fn .set_generic)),
 ("add_method", (.fn .add_method)),
 ("add_type", (.fn .add_type)),
 ("_law_type", (.fn .law_type)),
 ("new_asm", (.fn .new_asm)),
 ("Store", (.cls .Store)),
 ("set_body", (.fn .set_body)),
 ("same_defs", (.fn .same_defs)),
 ("_law_ask", (.fn .law_ask)),
 ("_law_alike", (.fn .law_alike)),
 ("_law_lay", (.fn .law_lay)),
 ("_law_changed", (.fn .law_changed)),
 ("_law_described", (.fn .law_described)),
 ("_law_world", (.fn .law_world))
]
@[irreducible] noncomputable def wpF : Nat -> FnSem
 | 0 => fun _ _ _ _ => False
 | n + 1 => fun f vs Q σ => (vs.length = f.fr.np /\ wpS (wpF n) Q f.fr.body (fun _ σ' => Q .none σ') (vs.map some ++ List.replicate (f.fr.sl.length - f.fr.np) none) σ) ∨ wpF n f vs Q σ
section
variable {σ : St} {m n : Nat} {a b v v' : V} {vs : List V} {kv : List (V × V)}
theorem lk_new {o : O} : (σ ++ [o])[σ.length]? = some o := List.getElem?_concat_length
theorem lk_app {o : O} {l : List O} (h : σ[n]? = some o) : (σ ++ l)[n]? = some o := by rw [List.getElem?_append_left (List.getElem?_eq_some_iff.mp h).1]; exact h
theorem lk_set {o o' : O} (h : σ[n]? = some o) : (σ.set n o')[n]? = some o' := List.getElem?_set_self (List.getElem?_eq_some_iff.mp h).1
theorem lk_ne {o o' : O} (g : m ≠ n) (h : σ[n]? = some o) : (σ.set m o')[n]? = some o := by rw [List.getElem?_set_ne g]; exact h
theorem fit_l {i : Int} (h : (decide (-big < i) && decide (i < big)) = true) : fit i := by unfold fit; simpa using h
theorem fit_n {k : Nat} (h : Nat.ble k 1000000 = true) : fit k := by
 have := Nat.le_of_ble_eq_true h
 unfold fit; exact ⟨by simp only [big]; omega, by simp only [big]; omega⟩
theorem nlt {n k : Nat} {i : Int} (h : n < k) (e : i = (k : Int)) : (n : Int) < i := e ▸ Int.ofNat_lt.mpr h
theorem ko_mk (h : kd a ≠ 0) (g : ∀ e ∈ kv, kd e.1 = kd a) : keyOk kv a := by unfold keyOk; exact ⟨h, g⟩
theorem ko_1 (h : keyOk kv a) : kd a ≠ 0 /\ ∀ e ∈ kv, kd e.1 = kd a := by unfold keyOk at h; exact h
theorem ko_str {x : String} : keyOk [] (.str x) := ko_mk (by simp [kd]) (fun e he => by cases he)
theorem ko_int {x : Int} : keyOk [] (.int x) := ko_mk (by simp [kd]) (fun e he => by cases he)
theorem ko_cons {k : V} (h : kd k = kd a) (r : keyOk kv a) : keyOk ((k, v) :: kv) a := ko_mk (ko_1 r).1 fun e he => by
 rcases List.mem_cons.mp he with rfl | he
 ·exact h
 ·exact (ko_1 r).2 e he
theorem dg_hd : dget ((a, v) :: kv) a = some v := if_pos rfl
theorem dg_tl {o : Option V} (h : a ≠ b) (e : dget kv b = o) : dget ((a, v) :: kv) b = o := (if_neg h).trans e
theorem dp_hd : dput ((a, v) :: kv) a v' = (a, v') :: kv := if_pos rfl
theorem dp_tl {kv' : List (V × V)} (h : a ≠ b) (e : dput kv b v' = kv') : dput ((a, v) :: kv) b v' = (a, v) :: kv' := (if_neg h).trans (congrArg _ e)
theorem str_ne {x y : String} (h : (x == y) = false) : V.str x ≠ V.str y := fun e => by injection e with e; subst e; simp at h
theorem int_ne {x y : Int} (h : decide (x = y) = false) : V.int x ≠ V.int y := fun e => by injection e with e; subst e; simp at h
theorem cut_set {F : FnSem} {R : Post} {N : Nt} {ρ : Fr} {i : Nat} {e : E} {k : S} (h : ∀ W : Nt, (∀ ρ σ, wpS F R k N ρ σ -> W ρ σ) -> wpE F e [] (kSet i W) ρ σ []) : wpS F R (.set i e k) N ρ σ := h _ fun _ _ h => h
theorem cut_ite {F : FnSem} {R : Post} {N : Nt} {ρ : Fr} {c : E} {a b k : S} (h : ∀ W : Nt, (∀ ρ σ, wpS F R k N ρ σ -> W ρ σ) -> wpE F c [] (IfW (kN (wpS F R a W)) (kN (wpS F R b W))) ρ σ []) : wpS F R (.ite c a b k) N ρ σ := h _ fun _ _ h => h
theorem cut_setT {F : FnSem} {R : Post} {N : Nt} {ρ : Fr} {is : List Nat} {e : E} {k : S} (h : ∀ W : Nt, (∀ ρ σ, wpS F R k N ρ σ -> W ρ σ) -> wpE F e [] (SetTW is W) ρ σ []) : wpS F R (.setT is e k) N ρ σ := h _ fun _ _ h => h
section
variable {σ l : St} {n k : Nat} {o o' : O} {K : Kt} {N : Nt} {ρ : Fr} {ws vs : List V} {kv : List (V × V)} {v i : V} {F : FnSem} {c : Cl} {fs fs' : List (At × V)}
theorem fr_get (h : l[k]? = some o) : (σ ++ l)[σ.length + k]? = some o := by rw [List.getElem?_append_right (Nat.le_add_right _ _), Nat.add_sub_cancel_left]; exact h
theorem fr_get0 (h : l[0]? = some o) : (σ ++ l)[σ.length]? = some o := fr_get (k := 0) h
theorem fr_set : (σ ++ l).set (σ.length + k) o = σ ++ l.set k o := by rw [List.set_append_right _ _ (Nat.le_add_right _ _), Nat.add_sub_cancel_left]
theorem hp_eq {P : St -> Prop} {l' : St} (q : P (σ ++ l')) (e : l = l') : P (σ ++ l) := e ▸ q
theorem lv_some {xs : List V} (h : σ[n]? = some (.list xs)) : live σ xs (some n) := h
theorem sa_fr (h : l[k]? = some (.inst c fs)) (e : fput fs n v = fs') (b : Nat.blt fs.length 60 = true) (p : (Nat.beq c Cl.Paths && Nat.beq n At.kind) = false) (q : N ρ (σ ++ l.set k (.inst c fs'))) : SetAW n N ρ (σ ++ l) (.loc (σ.length + k) :: v :: vs) := .mk (fr_get h) b e p (by rw [fr_set]; exact q)
theorem sa_fr0 (h : l[0]? = some (.inst c fs)) (e : fput fs n v = fs') (b : Nat.blt fs.length 60 = true) (p : (Nat.beq c Cl.Paths && Nat.beq n At.kind) = false) (q : N ρ (σ ++ l.set 0 (.inst c fs'))) : SetAW n N ρ (σ ++ l) (.loc σ.length :: v :: vs) := sa_fr (k := 0) h e b p q
theorem ap_fr {xs : List V} (h : l[k]? = some (.list xs)) (b : Nat.blt xs.length lim = true) (q : K ρ (σ ++ l.set k (.list (xs ++ [v]))) (.none :: vs)) : MethW F K ρ (σ ++ l) vs (.loc (σ.length + k)) .append [v] := .append (fr_get h) b (by rw [fr_set]; exact q)
theorem ap_fr0 {xs : List V} (h : l[0]? = some (.list xs)) (b : Nat.blt xs.length lim = true) (q : K ρ (σ ++ l.set 0 (.list (xs ++ [v]))) (.none :: vs)) : MethW F K ρ (σ ++ l) vs (.loc σ.length) .append [v] := ap_fr (k := 0) h b q
theorem ls_fr (q : K ρ (σ ++ (l ++ [.list ws])) (.loc (σ.length + l.length) :: vs)) : kList K ws ρ (σ ++ l) vs := by unfold kList; rw [List.append_assoc, List.length_append]; exact q
theorem ds_fr (q : K ρ (σ ++ (l ++ [.dict kv])) (.loc (σ.length + l.length) :: vs)) : kDict K kv ρ (σ ++ l) vs := by unfold kDict; rw [List.append_assoc, List.length_append]; exact q
theorem si_fr (h : l[k]? = some o) (s : SetO v o i o') (q : N ρ (σ ++ l.set k o')) : SetIW N ρ (σ ++ l) (i :: .loc (σ.length + k) :: v :: vs) := .mk (fr_get h) s (by rw [fr_set]; exact q)
end
section
variable {σ l : St} {n : At} {R : Post} {k : S} {N : Nt} {ρ : Fr} {v : V} {vs : List V} {F : FnSem} {c : Cl} {fs fs' : List (At × V)}
theorem st_c (b : Nat.blt fs.length 60 = true) (p : (Nat.beq c Cl.Paths && Nat.beq n At.kind) = false) (q : wpS F R k N (some (.loc σ.length) :: ρ) (σ ++ .inst c (fput fs n v) :: l)) : wpS F R (.setA (.lv 0) n (.const v) k) N (some (.loc σ.length) :: ρ) (σ ++ .inst c fs :: l) := sa_fr0 rfl rfl b p q
theorem st_lv {i : Nat} (hv : (some (.loc σ.length) :: ρ)[i]? = some (some v)) (b : Nat.blt fs.length 60 = true) (p : (Nat.beq c Cl.Paths && Nat.beq n At.kind) = false) (q : wpS F R k N (some (.loc σ.length) :: ρ) (σ ++ .inst c (fput fs n v) :: l)) : wpS F R (.setA (.lv 0) n (.lv i) k) N (some (.loc σ.length) :: ρ) (σ ++ .inst c fs :: l) := by
 show getS (some (.loc σ.length) :: ρ)[i]? _
 rw [hv]; exact sa_fr0 rfl rfl b p q
theorem st_list (b : Nat.blt fs.length 60 = true) (p : (Nat.beq c Cl.Paths && Nat.beq n At.kind) = false) (q : wpS F R k N (some (.loc σ.length) :: ρ) (σ ++ .inst c (fput fs n (.loc (σ.length + (l.length + 1)))) :: (l ++ [.list []]))) : wpS F R (.setA (.lv 0) n (.list .nil) k) N (some (.loc σ.length) :: ρ) (σ ++ .inst c fs :: l) := by
 show kList (wpE F (.lv 0) [] (SetAW n (wpS F R k N))) [] (some (.loc σ.length) :: ρ) (σ ++ .inst c fs :: l) []
 exact ls_fr (sa_fr0 rfl rfl b p q)
theorem st_dict (b : Nat.blt fs.length 60 = true) (p : (Nat.beq c Cl.Paths && Nat.beq n At.kind) = false) (q : wpS F R k N (some (.loc σ.length) :: ρ) (σ ++ .inst c (fput fs n (.loc (σ.length + (l.length + 1)))) :: (l ++ [.dict []]))) : wpS F R (.setA (.lv 0) n (.dict .nil) k) N (some (.loc σ.length) :: ρ) (σ ++ .inst c fs :: l) := by
 show kDict (wpE F (.lv 0) [] (SetAW n (wpS F R k N))) [] (some (.loc σ.length) :: ρ) (σ ++ .inst c fs :: l) []
 exact ds_fr (sa_fr0 rfl rfl b p q)
theorem sa_f0 (e : fput fs n v = fs') (b : Nat.blt fs.length 60 = true) (p : (Nat.beq c Cl.Paths && Nat.beq n At.kind) = false) (q : N ρ (σ ++ .inst c fs' :: l)) : SetAW n N ρ (σ ++ .inst c fs :: l) (.loc σ.length :: v :: vs) := sa_fr0 rfl e b p q
end
theorem hp_nil {P : St -> Prop} (q : P (σ ++ [])) : P σ := by rwa [List.append_nil] at q
theorem hp_assoc {P : St -> Prop} {l l' : St} (q : P (σ ++ (l ++ l'))) : P (σ ++ l ++ l') := by rwa [<- List.append_assoc] at q
theorem cut_setA {F : FnSem} {R : Post} {N : Nt} {ρ : Fr} {o e : E} {n : At} {k : S} (h : ∀ W : Nt, (∀ ρ σ, wpS F R k N ρ σ -> W ρ σ) -> wpE F e [] (wpE F o [] (SetAW n W)) ρ σ []) : wpS F R (.setA o n e k) N ρ σ := h _ fun _ _ h => h
section
variable {σ l : St} {n : At} {R : Post} {k : S} {N : Nt} {ρ : Fr} {v : V} {vs : List V} {F : FnSem} {c : Cl} {fs fs' : List (At × V)} {m j : Nat} {i o : O} {K : Kt}
theorem sm_m (hm : m < σ.length) : (σ.set m i ++ l)[m]? = some i := lk_app (List.getElem?_set_self hm)
theorem sm_get (h : l[j]? = some o) : (σ.set m i ++ l)[σ.length + j]? = some o := by have := fr_get (σ := σ.set m i) h; rwa [List.length_set] at this
theorem sm_app {xs : List V} (h : l[j]? = some (.list xs)) (b : Nat.blt xs.length lim = true) (q : K ρ (σ.set m i ++ l.set j (.list (xs ++ [v]))) (.none :: vs)) : MethW F K ρ (σ.set m i ++ l) vs (.loc (σ.length + j)) .append [v] := by
 have := ap_fr (F := F) (σ := σ.set m i) h b q
 rwa [List.length_set] at this
theorem sm_list (hm : m < σ.length) (hr : ρ[j]? = some (some (.loc m))) (b : Nat.blt fs.length 60 = true) (p : (Nat.beq c Cl.Paths && Nat.beq n At.kind) = false) (q : wpS F R k N ρ (σ.set m (.inst c (fput fs n (.loc (σ.length + l.length)))) ++ (l ++ [.list []]))) : wpS F R (.setA (.lv j) n (.list .nil) k) N ρ (σ.set m (.inst c fs) ++ l) := by
 show kList (wpE F (.lv j) [] (SetAW n (wpS F R k N))) [] ρ (σ.set m (.inst c fs) ++ l) []
 refine ls_fr ?_
 show getS ρ[j]? _
 rw [hr, List.length_set]
 refine .mk (sm_m hm) b rfl p ?_
 rw [List.set_append_left _ _ (by rw [List.length_set]; exact hm), List.set_set]
 exact q
end
theorem fit_1 : fit 1 := fit_l rfl
theorem fit_5 : fit 5 := fit_l rfl
theorem fit_16 : fit 16 := fit_l rfl
theorem enter {n np : Nat} {Q : Post} {f : Fn} {sl : List String} {body : S} (e : f.fr = ⟨np, sl, body⟩) (hl : vs.length = np) (q : wpS (wpF n) Q body (fun _ σ' => Q .none σ') (vs.map some ++ List.replicate (sl.length - np) none) σ) : wpF (n + 1) f vs Q σ := by
 have h : vs.length = f.fr.np /\ wpS (wpF n) Q f.fr.body (fun _ σ' => Q .none σ') (vs.map some ++ List.replicate (f.fr.sl.length - f.fr.np) none) σ := by rw [e]; exact ⟨hl, q⟩
 with_unfolding_all exact Or.inl h
theorem wpF_le {n m : Nat} (h : n ≤ m) {f : Fn} {Q : Post} (q : wpF n f vs Q σ) : wpF m f vs Q σ := by
 induction h with
 | refl => exact q
 | step _ ih => with_unfolding_all exact Or.inr ih
section
variable {n : Nat} {Q : Post} {f : Fn} {sl : List String} {body : S} {a0 a1 a2 a3 a4 a5 a6 a7 : V}
theorem enter1 (e : f.fr = ⟨1, sl, body⟩) (q : wpS (wpF n) Q body (fun _ σ' => Q .none σ') (some a0 :: List.replicate (sl.length - 1) none) σ) : wpF (n + 1) f [a0] Q σ := enter e rfl q
theorem enter2 (e : f.fr = ⟨2, sl, body⟩) (q : wpS (wpF n) Q body (fun _ σ' => Q .none σ') (some a0 :: some a1 :: List.replicate (sl.length - 2) none) σ) : wpF (n + 1) f [a0, a1] Q σ := enter e rfl q
theorem enter3 (e : f.fr = ⟨3, sl, body⟩) (q : wpS (wpF n) Q body (fun _ σ' => Q .none σ') (some a0 :: some a1 :: some a2 :: List.replicate (sl.length - 3) none) σ) : wpF (n + 1) f [a0, a1, a2] Q σ := enter e rfl q
theorem enter4 (e : f.fr = ⟨4, sl, body⟩) (q : wpS (wpF n) Q body (fun _ σ' => Q .none σ') (some a0 :: some a1 :: some a2 :: some a3 :: List.replicate (sl.length - 4) none) σ) : wpF (n + 1) f [a0, a1, a2, a3] Q σ := enter e rfl q
theorem enter5 (e : f.fr = ⟨5, sl, body⟩) (q : wpS (wpF n) Q body (fun _ σ' => Q .none σ') (some a0 :: some a1 :: some a2 :: some a3 :: some a4 :: List.replicate (sl.length - 5) none) σ) : wpF (n + 1) f [a0, a1, a2, a3, a4] Q σ := enter e rfl q
theorem enter6 (e : f.fr = ⟨6, sl, body⟩) (q : wpS (wpF n) Q body (fun _ σ' => Q .none σ') (some a0 :: some a1 :: some a2 :: some a3 :: some a4 :: some a5 :: List.replicate (sl.length - 6) none) σ) : wpF (n + 1) f [a0, a1, a2, a3, a4, a5] Q σ := enter e rfl q
theorem enter7 (e : f.fr = ⟨7, sl, body⟩) (q : wpS (wpF n) Q body (fun _ σ' => Q .none σ') (some a0 :: some a1 :: some a2 :: some a3 :: some a4 :: some a5 :: some a6 :: List.replicate (sl.length - 7) none) σ) : wpF (n + 1) f [a0, a1, a2, a3, a4, a5, a6] Q σ := enter e rfl q
theorem enter8 (e : f.fr = ⟨8, sl, body⟩) (q : wpS (wpF n) Q body (fun _ σ' => Q .none σ') (some a0 :: some a1 :: some a2 :: some a3 :: some a4 :: some a5 :: some a6 :: some a7 :: List.replicate (sl.length - 8) none) σ) : wpF (n + 1) f [a0, a1, a2, a3, a4, a5, a6, a7] Q σ := enter e rfl q
end
end
theorem map_toNat_inj : ∀ {a b : List Char}, a.map Char.toNat = b.map Char.toNat -> a = b
 | [], [], _ => rfl
 | [], _ :: _, h => nomatch h
 | _ :: _, [], h => nomatch h
 | _ :: _, _ :: _, h => by
  injection h with h1 h2
  rw [Char.ext (UInt32.toNat_inj.mp h1), map_toNat_inj h2]
theorem ofString_inj {a b : String} (h : Str.ofString a = Str.ofString b) : a = b := by
 rw [Str.ofString_eq_toList, Str.ofString_eq_toList] at h
 injection h with h
 rw [<- String.ofList_toList (s := a), <- String.ofList_toList (s := b), map_toNat_inj (List.toArray_inj h)]
theorem ofString_beq {a b : String} : (Str.ofString a == Str.ofString b) = (a == b) := by
 by_cases h : a = b
 ·subst h; rw [beq_self_eq_true, beq_self_eq_true]
 ·rw [beq_eq_false_iff_ne.mpr h, beq_eq_false_iff_ne.mpr fun e => h (ofString_inj e)]
mutual
noncomputable def pd : V -> PyData
 | .int i => .int i
 | .str s => .str (Str.ofString s)
 | .tup l => .tuple (pds l)
 | _ => .none
noncomputable def pds : List V -> List PyData
 | [] => []
 | v :: l => pd v :: pds l
end
theorem mapM_pd {f : V -> Option PyData} : ∀ {l : List V}, (∀ x ∈ l, f x = some (pd x)) -> l.mapM f = some (pds l)
 | [], _ => rfl
 | x :: l, h => by
  rw [List.mapM_cons, h x (.head _), mapM_pd (l := l) fun y hy => h y (.tail _ hy)]
  rfl
theorem pure_tup {n : Nat} {l : List V} (h : pureN n (.tup l) = true) : ∃ m, n = m + 1 /\ ∀ v ∈ l, pureN m v = true := by
 cases n with
 | zero => exact Bool.noConfusion h
 | succ m => exact ⟨m, rfl, List.all_eq_true.mp h⟩
theorem dat_pure (σ : St) : ∀ (n m : Nat) (v : V), n ≤ m -> pureN n v = true -> dat σ m v = some (pd v) := by
 intro n
 induction n with
 | zero => intro m v _ h; cases v <;> first | exact Bool.noConfusion h | (cases m <;> rfl)
 | succ n ih =>
  intro m v hm h
  cases v with
  | tup l =>
   cases m with
   | zero => exact absurd hm (Nat.not_succ_le_zero n)
   | succ m => exact congrArg (Option.map PyData.tuple) (mapM_pd fun x hx => ih m x (Nat.le_of_succ_le_succ hm) (List.all_eq_true.mp h x hx))
  | _ => first | exact Bool.noConfusion h | (cases m <;> rfl)
theorem pureN_succ : ∀ (n : Nat) (v : V), pureN n v = true -> pureN (n + 1) v = true := by
 intro n
 induction n with
 | zero => intro v h; cases v <;> first | exact h | exact Bool.noConfusion h
 | succ n ih =>
  intro v h
  cases v with
  | tup l => exact List.all_eq_true.mpr fun x hx => ih x (List.all_eq_true.mp h x hx)
  | _ => exact h
theorem pureN_le {n m : Nat} (h : n ≤ m) {v : V} (x : pureN n v = true) : pureN m v = true := by
 induction h with
 | refl => exact x
 | step _ ih => exact pureN_succ _ _ ih
theorem eqv_pure : ∀ (n : Nat) (a b : V), pureN n a = true -> pureN n b = true -> (PyData.eqv (pd a) (pd b) = true ↔ a = b) := by
 have off : ∀ {p : Bool} {a b : V}, p = false -> a ≠ b -> (p = true ↔ a = b) := fun h e => ⟨fun z => Bool.noConfusion (h.symm.trans z), fun z => (e z).elim⟩
 intro n
 induction n with
 | zero =>
  intro a b ha hb
  cases a <;> first | exact Bool.noConfusion ha | skip
  all_goals cases b <;> first | exact Bool.noConfusion hb | exact off rfl (fun h => V.noConfusion h) | skip
  ·exact ⟨fun _ => rfl, fun _ => rfl⟩
  ·exact ⟨fun h => congrArg V.int (of_decide_eq_true h), fun h => V.int.inj h ▸ decide_eq_true rfl⟩
  ·exact (Iff.of_eq (congrArg (· = true) ofString_beq)).trans ⟨fun h => congrArg V.str (beq_iff_eq.mp h), fun h => beq_iff_eq.mpr (V.str.inj h)⟩
 | succ n ih =>
  intro a b ha hb
  cases a <;> first | exact Bool.noConfusion ha | skip
  all_goals cases b <;> first | exact Bool.noConfusion hb | exact off rfl (fun h => V.noConfusion h) | skip
  ·exact ⟨fun _ => rfl, fun _ => rfl⟩
  ·exact ⟨fun h => congrArg V.int (of_decide_eq_true h), fun h => V.int.inj h ▸ decide_eq_true rfl⟩
  ·exact (Iff.of_eq (congrArg (· = true) ofString_beq)).trans ⟨fun h => congrArg V.str (beq_iff_eq.mp h), fun h => beq_iff_eq.mpr (V.str.inj h)⟩
  ·rename_i l m
   have key : ∀ (l m : List V), (∀ x ∈ l, pureN n x = true) -> (∀ x ∈ m, pureN n x = true) -> (PyData.eqvAll (pds l) (pds m) = true ↔ l = m) := by
    intro l
    induction l with
    | nil => intro m _ _; cases m with
     | nil => exact ⟨fun _ => rfl, fun _ => rfl⟩
     | cons _ _ => exact ⟨fun h => Bool.noConfusion h, fun h => nomatch h⟩
    | cons x l ih2 => intro m hl hm; cases m with
     | nil => exact ⟨fun h => Bool.noConfusion h, fun h => nomatch h⟩
     | cons y m =>
      refine ((Bool.and_eq_true _ _).to_iff).trans ⟨fun h => ?_, fun h => ?_⟩
      ·rw [(ih x y (hl x (.head _)) (hm y (.head _))).mp h.1, (ih2 m (fun z hz => hl z (.tail _ hz)) fun z hz => hm z (.tail _ hz)).mp h.2]
      ·injection h with h1 h2
       exact ⟨(ih x y (hl x (.head _)) (hm y (.head _))).mpr h1, (ih2 m (fun z hz => hl z (.tail _ hz)) fun z hz => hm z (.tail _ hz)).mpr h2⟩
   exact (key l m (List.all_eq_true.mp ha) (List.all_eq_true.mp hb)).trans ⟨fun h => congrArg V.tup h, fun h => V.tup.inj h⟩
theorem eqv_t {t : Bool} {a b : V} (ha : pureN 40 a = true) (hb : pureN 40 b = true) (h : a = b ↔ t = true) : PyData.eqv (pd a) (pd b) = t := by
 have e := eqv_pure 40 a b ha hb
 cases t with
 | true => exact e.mpr (h.mpr rfl)
 | false => exact Bool.eq_false_iff.mpr fun z => Bool.noConfusion (h.mp (e.mp z))
theorem cmp_eqp {K : Kt} {ρ : Fr} {σ : St} {vs : List V} {t : Bool} {a b : V} (ha : pureN 40 a = true) (hb : pureN 40 b = true) (h : a = b ↔ t = true) (q : K ρ σ (.bool t :: vs)) : CmpW .Eq K ρ σ (b :: a :: vs) :=
 .eq (dat_pure σ 40 40 a (Nat.le_refl _) ha) (dat_pure σ 40 40 b (Nat.le_refl _) hb) (eqv_t ha hb h) q
theorem cmp_nep {K : Kt} {ρ : Fr} {σ : St} {vs : List V} {t : Bool} {a b : V} (ha : pureN 40 a = true) (hb : pureN 40 b = true) (h : a = b ↔ t = true) (q : K ρ σ (.bool (!t) :: vs)) : CmpW .NotEq K ρ σ (b :: a :: vs) :=
 .ne (dat_pure σ 40 40 a (Nat.le_refl _) ha) (dat_pure σ 40 40 b (Nat.le_refl _) hb) (eqv_t ha hb h) q
end
section
local macro_rules
 | `(tactic| array_get_dec) => `(tactic| first
  | with_reducible assumption
  | ((with_reducible refine (?_ : _ = _)); first
   | (apply decide_eq_true; with_reducible assumption)
   | (apply decide_eq_false; with_reducible assumption)
   | exact (rfl : _ = true)
   | exact (rfl : _ = false)
   | exact lk_new
   | (apply lk_app; array_get_dec)
   | (apply lk_set; array_get_dec)
   | (apply lk_ne <;> (array_get_dec))
   | exact dg_hd | exact dp_hd | (apply dg_tl; exact str_ne rfl; array_get_dec) | (apply dp_tl; exact str_ne rfl; array_get_dec)
   | exact rfl)
  | ((with_reducible refine fit_n ?_); exact rfl) | with_reducible exact fit_1 | with_reducible exact fit_5 | with_reducible exact fit_16
  | ((with_reducible apply ko_cons); exact rfl; array_get_dec) | with_reducible exact ko_str | with_reducible exact ko_int)
local macro_rules
 | `(tactic| and_intros) => `(tactic| repeat first | array_get_dec | constructor)
local macro_rules
 | `(tactic| delta $x) => `(tactic| dsimp only [$x:ident, List.length_cons, List.length_nil, Nat.reduceAdd, Nat.reduceSub, List.replicate])
local macro_rules
 | `(tactic| sizeOf_list_dec) => `(tactic| repeat first
  | ((with_reducible apply st_lv); exact rfl; kernel_rfl; exact rfl)
  | ((with_reducible apply st_c); kernel_rfl; exact rfl)
  | ((with_reducible apply st_list); kernel_rfl; exact rfl)
  | ((with_reducible apply st_dict); kernel_rfl; exact rfl)
  | ((with_reducible refine fr_get ?_); exact rfl)
  | ((with_reducible refine fr_get0 ?_); exact rfl)
  | ((with_reducible apply sm_list); assumption; exact rfl; kernel_rfl; exact rfl)
  | ((with_reducible refine sm_m ?_); with_reducible assumption)
  | ((with_reducible refine sm_get ?_); exact rfl)
  | array_get_dec
  | ((with_reducible refine lv_some ?_); array_get_dec)
  | (apply sa_f0; exact rfl; kernel_rfl; exact rfl)
  | (apply sa_fr; exact rfl; exact rfl; kernel_rfl; exact rfl)
  | (apply ap_fr0; exact rfl; array_get_dec)
  | (apply ap_fr; exact rfl; array_get_dec)
  | (apply sm_app; exact rfl; exact rfl)
  | (apply si_fr; exact rfl)
  | constructor)
abbrev Facts := List (Nat × O)
def Has (σ : St) (fs : Facts) : Prop := ∀ p ∈ fs, σ[p.1]? = some p.2
noncomputable def idx (fs : Facts) : List Nat := fs.map (·.1)
structure Upd (fs fs' : Facts) (σ σ' : St) : Prop where
 has : Has σ' fs'
 nd : (idx fs').Nodup
 other : ∀ n, n < σ.length -> n ∉ idx fs -> σ'[n]? = σ[n]?
 new : ∀ n ∈ idx fs', n ∈ idx fs ∨ σ.length ≤ n
 len : σ.length ≤ σ'.length
theorem Has.lt {σ : St} {fs : Facts} (h : Has σ fs) {n : Nat} (m : n ∈ idx fs) : n < σ.length := by
 obtain ⟨p, hp, rfl⟩ := List.mem_map.mp m
 exact (List.getElem?_eq_some_iff.mp (h p hp)).1
theorem Has.nil {σ : St} : Has σ [] := fun _ h => by cases h
theorem Has.cons {σ : St} {n : Nat} {o : O} {fs : Facts} (a : σ[n]? = some o) (b : Has σ fs) : Has σ ((n, o) :: fs) := fun p hp => by
 rcases List.mem_cons.mp hp with rfl | hp
 ·exact a
 ·exact b p hp
theorem Has.app {σ : St} {fs gs : Facts} (a : Has σ fs) (b : Has σ gs) : Has σ (fs ++ gs) := fun p hp => (List.mem_append.mp hp).elim (a p) (b p)
theorem Has.left {σ : St} {fs gs : Facts} (a : Has σ (fs ++ gs)) : Has σ fs := fun p hp => a p (List.mem_append_left _ hp)
theorem Has.right {σ : St} {fs gs : Facts} (a : Has σ (fs ++ gs)) : Has σ gs := fun p hp => a p (List.mem_append_right _ hp)
theorem Upd.refl {σ : St} {fs : Facts} (h : Has σ fs) (nd : (idx fs).Nodup) : Upd fs fs σ σ := ⟨h, nd, fun _ _ _ => rfl, fun _ h => .inl h, Nat.le_refl _⟩
theorem Upd.trans {σ σ' σ'' : St} {fs fs' fs'' : Facts} (a : Upd fs fs' σ σ') (b : Upd fs' fs'' σ' σ'') : Upd fs fs'' σ σ'' where
 has := b.has
 nd := b.nd
 other := fun n hn hf => (b.other n (Nat.lt_of_lt_of_le hn a.len) fun q => (a.new n q).elim hf fun z => absurd hn (Nat.not_lt.mpr z)).trans (a.other n hn hf)
 new := fun n hn => (b.new n hn).elim (fun z => a.new n z) fun z => .inr (Nat.le_trans a.len z)
 len := Nat.le_trans a.len b.len
theorem Upd.frame {σ σ' : St} {fs fs' gs : Facts} (a : Upd fs fs' σ σ') (h : Has σ gs) (d : ∀ n ∈ idx gs, n ∉ idx fs) : Has σ' gs /\ ∀ n ∈ idx gs, n ∉ idx fs' := by
 refine ⟨fun p hp => ?_, fun n hn q => ?_⟩
 ·have m : p.1 ∈ idx gs := List.mem_map_of_mem hp
  rw [a.other _ (h.lt m) (d _ m)]; exact h p hp
 ·rcases a.new n q with z | z
  ·exact d n hn z
  ·exact absurd (h.lt hn) (Nat.not_lt.mpr z)
theorem Upd.keep {σ σ' : St} {fs fs' gs : Facts} (a : Upd fs fs' σ σ') (h : Has σ gs) (nd : (idx (fs ++ gs)).Nodup) : Upd (fs ++ gs) (fs' ++ gs) σ σ' := by
 have e : idx (fs ++ gs) = idx fs ++ idx gs := by simp [idx]
 have e' : idx (fs' ++ gs) = idx fs' ++ idx gs := by simp [idx]
 rw [e] at nd
 obtain ⟨n1, n2, n3⟩ := List.nodup_append.mp nd
 obtain ⟨f1, f2⟩ := a.frame h fun n hn q => n3 n q n hn rfl
 refine ⟨a.has.app f1, ?_, fun n hn hf => a.other n hn fun q => hf ?_, fun n hn => ?_, a.len⟩
 ·rw [e']
  exact List.nodup_append.mpr ⟨a.nd, n2, fun x hx y hy z => f2 y hy (z ▸ hx)⟩
 ·rw [e]; exact List.mem_append_left _ q
 ·rw [e'] at hn
  rcases List.mem_append.mp hn with q | q
  ·rcases a.new n q with z | z
   ·left; rw [e]; exact List.mem_append_left _ z
   ·exact .inr z
  ·left; rw [e]; exact List.mem_append_right _ q
theorem Upd.set1 {σ : St} {n : Nat} {o o' : O} {fs : Facts} (h : Has σ ((n, o) :: fs)) (nd : (idx ((n, o) :: fs)).Nodup) : Upd ((n, o) :: fs) ((n, o') :: fs) σ (σ.set n o') where
 has := by
  have hn : n < σ.length := h.lt (by simp [idx])
  refine Has.cons (by rw [List.getElem?_set_self hn]) fun p hp => ?_
  have : n ≠ p.1 := fun e => by
   have := (List.nodup_cons.mp nd).1
   exact this (List.mem_map.mpr ⟨p, hp, e.symm⟩)
  rw [List.getElem?_set_ne this]
  exact h p (.tail _ hp)
 nd := nd
 other := fun m _ hm => by
  rw [List.getElem?_set_ne]
  rintro rfl; exact hm (by simp [idx])
 new := fun m hm => .inl hm
 len := by simp
theorem Upd.push {σ : St} {o : O} {fs : Facts} (h : Has σ fs) (nd : (idx fs).Nodup) : Upd fs ((σ.length, o) :: fs) σ (σ ++ [o]) where
 has := Has.cons (by simp) fun p hp => by
  have := h.lt (List.mem_map_of_mem hp)
  rw [List.getElem?_append_left this]; exact h p hp
 nd := List.nodup_cons.mpr ⟨fun q => absurd (h.lt q) (Nat.lt_irrefl _), nd⟩
 other := fun m hm _ => List.getElem?_append_left hm
 new := fun m hm => by
  rcases List.mem_cons.mp hm with rfl | hm
  ·exact .inr (Nat.le_refl _)
  ·exact .inl hm
 len := by simp
theorem row_spec {n : Nat} {s r : Nat} {fs : List (At × V)} {rows : List V} {k : Nat} {v : V} {Q : Post} {σ : St} (h1 : σ[s]? = some (.inst .KindTable fs)) (h2 : fget fs .rows = some (.loc r)) (h3 : σ[r]? = some (.list rows)) (h4 : rows[k]? = some v) (q : Q v σ) :
  wpF (n + 1) .KindTable_row [.loc s, .int k] Q σ := by
 have hk : k < rows.length := (List.getElem?_eq_some_iff.mp h4).1
 refine enter2 rfl ?_
 delta body_KindTable_row
 (have := Int.not_lt.mpr (Int.natCast_nonneg k); have := Int.not_le.mpr (Int.ofNat_lt.mpr hk); and_intros)
noncomputable abbrev wO (nl at' : Nat) : O := .dict [(.str "nums", .loc nl), (.str "at", .int at')]
noncomputable def wF (wl nl : Nat) (nums : List Int) (at' : Nat) : Facts := [(wl, wO nl at'), (nl, .list (nums.map .int))]
theorem bd {a a2 j k k' : Nat} (hb : a + k ≤ 10000) (h : a2 ≤ a + j) (e : Nat.ble (j + k') k = true) : a2 + k' ≤ 10000 :=
 Nat.le_trans (Nat.add_le_add_right h k') (Nat.le_trans (Nat.le_of_eq (Nat.add_assoc a j k')) (Nat.le_trans (Nat.add_le_add_left (Nat.le_of_ble_eq_true e) a) hb))
theorem bl {a a2 a3 i j k : Nat} (h : a2 ≤ a + i) (h' : a3 ≤ a2 + j) (e : Nat.ble (i + j) k = true) : a3 ≤ a + k :=
 Nat.le_trans h' (Nat.le_trans (Nat.add_le_add_right h j) (Nat.le_trans (Nat.le_of_eq (Nat.add_assoc a i j)) (Nat.add_le_add_left (Nat.le_of_ble_eq_true e) a)))
theorem emod_nat (x : Int) {m : Nat} (hm : 0 < m) : ∃ r : Nat, r < m /\ x % (m : Int) = r := by
 have h1 := Int.emod_nonneg x (b := (m : Int)) (by omega)
 have h2 := Int.emod_lt_of_pos x (Int.natCast_pos.mpr hm)
 exact ⟨(x % (m : Int)).toNat, by omega, by omega⟩
theorem draw_spec {n : Nat} {wl nl : Nat} {nums : List Int} {at' : Nat} {m : Nat} {Q : Post} {σ : St} (h : Has σ (wF wl nl nums at')) (nd : wl ≠ nl) (hn : nums ≠ [] /\ nums.length ≤ 100) (hb : at' ≤ 10000) (hm : 0 < m)
  (q : ∀ (r : Nat) σ', r < m -> Upd (wF wl nl nums at') (wF wl nl nums (at' + 1)) σ σ' -> Q (.int r) σ') : wpF (n + 1) .law_draw [.loc wl, .int m] Q σ := by
 have h1 : σ[wl]? = some (wO nl at') := h _ (.head _)
 have h2 : σ[nl]? = some (.list (nums.map .int)) := h _ (.tail _ (.head _))
 have p1 : (0 : Int) < ((nums.map V.int).length : Int) := by rw [List.length_map]; exact Int.natCast_pos.mpr (List.length_pos_iff.mpr hn.1)
 have p2 : (0 : Int) < (m : Int) := Int.natCast_pos.mpr hm
 have hlt : at' % (nums.map V.int).length < (nums.map V.int).length := Nat.mod_lt _ (Int.natCast_pos.mp p1)
 obtain ⟨x, hx⟩ : ∃ x, (nums.map V.int)[at' % (nums.map V.int).length]? = some (.int x) := by
  rw [List.length_map] at hlt
  exact ⟨nums[at' % (nums.map V.int).length]'(by rw [List.length_map]; exact hlt), by rw [List.getElem?_map, List.getElem?_eq_getElem]; rfl⟩
 have f7 : fit ((at' : Int) / ((nums.map V.int).length : Int)) := fit_n (k := at' / (nums.map V.int).length) (Nat.ble_eq_true_of_le (Nat.le_trans (Nat.div_le_self _ _) (Nat.le_trans hb (by decide))))
 have p3 : ((nums.map V.int).length : Int) < 1000000 := nlt (k := 1000000) (by rw [List.length_map]; exact Nat.lt_of_le_of_lt hn.2 (by decide)) rfl
 have U := Upd.set1 (o' := wO nl (at' + 1)) h (by simp [idx, nd])
 have hi : (at' : Int) % ((nums.map V.int).length : Int) = ((at' % (nums.map V.int).length : Nat) : Int) := rfl
 refine enter2 rfl ?_
 delta body_law_draw
 (and_intros)
 show Q (.int (_ % _)) _
 obtain ⟨r, hr, e⟩ := emod_nat _ hm
 rw [e]
 exact q r _ hr U
inductive Tm where
 | p (k : Nat)
 | M
 | T (i : Nat)
 | a (t : Tm)
 | c0 (c : Nat)
 | c1 (c : Nat) (x : Tm)
 | c2 (c : Nat) (x y : Tm)
noncomputable def Tm.enc : Tm -> V
 | .p k => .tup [.str "p", .int k]
 | .M => .tup [.str "M", .int 0]
 | .T i => .tup [.str "T", .int i]
 | .a t => .tup [.str "a", t.enc]
 | .c0 c => .tup [.str "c", .int c, .tup []]
 | .c1 c x => .tup [.str "c", .int c, .tup [x.enc]]
 | .c2 c x y => .tup [.str "c", .int c, .tup [x.enc, y.enc]]
noncomputable def mkC (c : Nat) : List Tm -> Tm
 | [x] => .c1 c x
 | [x, y] => .c2 c x y
 | _ => .c0 c
theorem enc_mkC {c : Nat} : ∀ {l : List Tm}, l.length ≤ 2 -> (mkC c l).enc = .tup [.str "c", .int c, .tup (l.map Tm.enc)]
 | [], _ => rfl
 | [_], _ => rfl
 | [_, _], _ => rfl
 | _ :: _ :: _ :: _, h => absurd h (by simp)
def vc (nt c : Nat) : Prop := c < nt ∨ (10 ≤ c /\ c ≤ 13)
noncomputable def Tm.ok (nt : Nat) : Nat -> Tm -> Prop
 | _, .p k => 7 ≤ k /\ k ≤ 13
 | _, .M => True
 | _, .T i => i ≤ 1
 | m + 1, .a t => t.ok nt m
 | _, .c0 c => vc nt c
 | m + 1, .c1 c x => vc nt c /\ x.ok nt m
 | m + 1, .c2 c x y => vc nt c /\ x.ok nt m /\ y.ok nt m
 | _, _ => False
theorem ok_mkC {nt m c : Nat} (hc : vc nt c) : ∀ {l : List Tm}, (∀ t ∈ l, t.ok nt m) -> (mkC c l).ok nt (m + 1)
 | [], _ => hc
 | [_], h => ⟨hc, h _ (.head _)⟩
 | [_, _], h => ⟨hc, h _ (.head _), h _ (.tail _ (.head _))⟩
 | _ :: _ :: _ :: _, _ => hc
theorem comp_rule {lv : St -> Prop} {elt : List V -> Post -> St -> Prop} (I : List V -> St -> Prop) : ∀ (l acc : List V) (Q : List V -> St -> Prop) (σ : St), I acc σ -> (∀ acc σ, I acc σ -> lv σ) ->
  (∀ j x acc' σ (P : Post), l[j]? = some x -> acc'.length = acc.length + j -> I acc' σ -> (∀ v σ', I (acc' ++ [v]) σ' -> P v σ') -> elt [x] P σ) -> (∀ acc' σ, acc'.length = acc.length + l.length -> I acc' σ -> Q acc' σ) -> compW lv (tgt 0) (fun _ Q σ => Q (.bool true) σ) elt l acc Q σ
 | [], acc, Q, σ, h0, hl, hs, he => ⟨hl _ _ h0, he acc σ rfl h0⟩
 | x :: r, acc, Q, σ, h0, hl, hs, he => ⟨hl _ _ h0, [x], rfl, .tt (hs 0 x acc σ _ rfl rfl h0 fun v σ' h' => comp_rule I r (acc ++ [v]) Q σ' h' hl
   (fun j y a s P hy ha => hs (j + 1) y a s P hy (by rw [ha, List.length_append, Nat.add_assoc, Nat.add_comm j 1]; rfl)) (fun a s hlen => he a s (by rw [hlen, List.length_append, Nat.add_assoc]; exact congrArg _ (Nat.add_comm 1 _))))⟩
theorem for_rule {α : Type} {lv : St -> Prop} {body : Nt -> Nt} {i : Nat} (fr : α -> Fr) (I : Nat -> α -> St -> Prop) : ∀ (l : List V) (k : Nat) (N : Nt) (a : α) (σ : St), I k a σ -> (∀ k a σ, I k a σ -> lv σ) ->
  (∀ j x a σ (N' : Nt), l[j]? = some x -> I (k + j) a σ -> (∀ a' σ', I (k + j + 1) a' σ' -> N' (fr a') σ') -> setK x (fr a) i fun ρ1 => body N' ρ1 σ) -> (∀ a σ, I (k + l.length) a σ -> N (fr a) σ) -> forW lv false [i] body l N (fr a) σ
 | [], k, N, a, σ, h0, hl, hs, he => ⟨hl _ _ _ h0, he a σ h0⟩
 | x :: r, k, N, a, σ, h0, hl, hs, he => ⟨hl _ _ _ h0, hs 0 x a σ _ rfl h0 fun a' σ' h' => for_rule fr I r (k + 1) N a' σ' h' hl
   (fun j y a σ N' hj h1 h2 => hs (j + 1) y a σ N' hj (by rw [<- Nat.add_assoc, Nat.add_right_comm]; exact h1) (by rw [<- Nat.add_assoc, Nat.add_right_comm k j 1]; exact h2)) fun a σ h1 => he a σ (by rw [List.length_cons, <- Nat.add_assoc, Nat.add_right_comm]; exact h1)⟩
theorem ex1 {α : Type} {R : α -> Prop} {P : Prop} (h : ∃ a, R a) (k : ∀ a, R a -> P) : P := h.elim k
theorem ex2 {α β : Type} {R : α -> β -> Prop} {P : Prop} (h : ∃ a b, R a b) (k : ∀ a b, R a b -> P) : P := h.elim fun a h => h.elim (k a)
theorem ex3 {α β γ : Type} {R : α -> β -> γ -> Prop} {P : Prop} (h : ∃ a b c, R a b c) (k : ∀ a b c, R a b c -> P) : P := h.elim fun a h => ex2 h (k a)
theorem ex4 {α β γ δ : Type} {R : α -> β -> γ -> δ -> Prop} {P : Prop} (h : ∃ a b c d, R a b c d) (k : ∀ a b c d, R a b c d -> P) : P := h.elim fun a h => ex3 h (k a)
noncomputable def encT (t : String × Nat) : V := .tup [.str t.1, .int t.2]
noncomputable abbrev dO (tl cl : Nat) (name : String) : O := .dict [(.str "name", .str name), (.str "types", .loc tl), (.str "code", .loc cl)]
noncomputable def cntT (types : List (String × Nat)) (c : Nat) : Nat := if c < 10 then (types[c]?.map (·.2)).getD 0 else if c = 10 then 0 else 1
theorem ltS {n r : Nat} (h : r < n + 1) : r < n ∨ r = n := Nat.lt_succ_iff_lt_or_eq.mp h
theorem four {j : Nat} (h : j ≤ 3) : j = 0 ∨ j = 1 ∨ j = 2 ∨ j = 3 :=
 (ltS (Nat.lt_succ_of_le h)).elim (fun h => (ltS h).elim (fun h => (ltS h).elim (fun h => .inl (Nat.lt_one_iff.mp h)) fun h => .inr (.inl h)) fun h => .inr (.inr (.inl h))) fun h => .inr (.inr (.inr h))
section
variable {n : Nat} {Q : Post} {σ : St} {dl tl cl : Nat} {name : String} {types : List (String × Nat)}
theorem count_spec {c : Nat} (h1 : σ[dl]? = some (dO tl cl name)) (h2 : σ[tl]? = some (.list (types.map encT))) (hc : vc types.length c) (hn : types.length ≤ 9) (q : Q (.int (cntT types c)) σ) :
  wpF (n + 1) .law_count [.loc dl, .int c] Q σ := by
 refine enter2 rfl ?_
 delta body_law_count
 rcases hc with hc | ⟨hc, hc'⟩
 ·have h9 : c < 10 := Nat.lt_of_lt_of_le hc (Nat.le_succ_of_le hn)
  have e1 : (c : Int) < 10 := nlt h9 rfl
  have ht : (types.map encT)[c]? = some (encT types[c]) := by rw [List.getElem?_map, List.getElem?_eq_getElem hc]; rfl
  have e : cntT types c = types[c].2 := by unfold cntT; rw [if_pos h9, List.getElem?_eq_getElem hc]; rfl
  rw [e] at q
  (and_intros)
 ·have e1 : ¬ (c : Int) < 10 := fun h => Nat.not_lt.mpr hc (Int.ofNat_lt.mp h)
  have e2 : (c : Int) - 10 = ((c - 10 : Nat) : Int) := (Int.ofNat_sub hc).symm
  have ht : [V.int 0, .int 1, .int 1, .int 1][c - 10]? = some (.int (cntT types c)) := by
   obtain ⟨j, rfl⟩ := Nat.le.dest hc
   rw [Nat.add_sub_cancel_left]
   rcases four (Nat.le_of_add_le_add_left (a := 10) hc') with rfl | rfl | rfl | rfl <;> rfl
  (and_intros)
theorem rng_len {k : Nat} : (rngL 0 (k : Int)).length = k := by
 have : ∀ (n : Nat) (lo : Int), (intsL lo n).length = n := by
  intro n; induction n with
  | zero => intro lo; rfl
  | succ n ih => intro lo; exact congrArg (· + 1) (ih _)
 rw [rngL, this, Int.sub_zero]; rfl
theorem rng_at {k i : Nat} (h : i < k) : (rngL 0 (k : Int))[i]? = some (.int i) := by
 have : ∀ (n : Nat) (lo i : Nat), i < n -> (intsL lo n)[i]? = some (.int (lo + i : Nat)) := by
  intro n; induction n with
  | zero => intro lo i h; exact absurd h (Nat.not_lt_zero _)
  | succ n ih =>
   intro lo i h
   cases i with
   | zero => rfl
   | succ i => exact (ih (lo + 1) i (Nat.lt_of_succ_lt_succ h)).trans (by rw [Nat.add_right_comm]; rfl)
 rw [rngL, Int.sub_zero]
 exact (this k 0 i h).trans (by rw [Nat.zero_add])
noncomputable abbrev clsL (types : List (String × Nat)) : List V := rngL 0 types.length ++ [.int 10, .int 11, .int 12, .int 13]
theorem cls_len : (clsL types).length = types.length + 4 := by rw [List.length_append, rng_len]; rfl
theorem classes_spec (h1 : σ[dl]? = some (dO tl cl name)) (h2 : σ[tl]? = some (.list (types.map encT))) (hn : types.length ≤ 9)
  (q : ∀ a b, Q (.loc (σ ++ [a] ++ [b]).length) (σ ++ [a] ++ [b] ++ [.list (clsL types)])) :
  wpF (n + 1) .law_classes [.loc dl] Q σ := by
 have hm : (types.map encT).length = types.length := List.length_map _
 have f1 : fit ((types.map encT).length : Int) := by rw [hm]; exact fit_n (Nat.ble_eq_true_of_le (Nat.le_trans hn (by decide)))
 have l1 : Nat.ble (rngL 0 ((types.map encT).length : Int)).length lim = true := by rw [rng_len, hm]; exact Nat.ble_eq_true_of_le (Nat.le_trans hn (by decide))
 have l2 : Nat.ble (rngL 0 ((types.map encT).length : Int) ++ [V.int 10, V.int 11, V.int 12, V.int 13]).length lim = true := by rw [hm]; exact Nat.ble_eq_true_of_le (by rw [cls_len]; exact Nat.le_trans (Nat.add_le_add_right hn 4) (by decide))
 refine enter1 rfl ?_
 delta body_law_classes
 (and_intros)
 rw [hm]
 exact q _ _
end
def WW (nums : List Int) : Prop := nums ≠ [] /\ nums.length ≤ 100
structure DD (D : Facts) (dl tl cl : Nat) (name : String) (types : List (String × Nat)) : Prop where
 m1 : (dl, dO tl cl name) ∈ D
 m2 : (tl, .list (types.map encT)) ∈ D
 hn : types.length ≤ 9
 hc : ∀ t ∈ types, t.2 ≤ 2
abbrev Drawn (wl nl : Nat) (nums : List Int) (D : Facts) (at' at2 : Nat) (σ σ' : St) : Prop := Upd (wF wl nl nums at' ++ D) (wF wl nl nums at2 ++ D) σ σ'
structure Sta (σ : St) (fs : Facts) : Prop where
 has : Has σ fs
 nd : (idx fs).Nodup
theorem Upd.sta {fs fs' : Facts} {σ σ' : St} (u : Upd fs fs' σ σ') : Sta σ' fs' := ⟨u.has, u.nd⟩
theorem Sta.refl {fs : Facts} {σ : St} (s : Sta σ fs) : Upd fs fs σ σ := .refl s.has s.nd
theorem Sta.grow {fs : Facts} {σ : St} (s : Sta σ fs) (os : St) : Upd fs fs σ (σ ++ os) :=
 ⟨fun p hp => lk_app (s.has p hp), s.nd, fun m hm _ => List.getElem?_append_left hm, fun m hm => .inl hm, by rw [List.length_append]; exact Nat.le_add_right _ _⟩
section
variable {n : Nat} {Q : Post} {σ : St} {wl nl : Nat} {nums : List Int} {at' : Nat} {D : Facts}
theorem draw_D {m : Nat} (h : Sta σ (wF wl nl nums at' ++ D)) (hw : WW nums) (hb : at' ≤ 10000) (hm : 0 < m)
  (q : ∀ (r : Nat) σ', r < m -> Drawn wl nl nums D at' (at' + 1) σ σ' -> Q (.int r) σ') : wpF (n + 1) .law_draw [.loc wl, .int m] Q σ :=
 draw_spec h.has.left (fun z => (List.nodup_cons.mp (show (wl :: nl :: idx D).Nodup from h.nd)).1 (z ▸ .head _)) hw hb hm fun r σ' hr U => q r σ' hr (U.keep h.has.right h.nd)
theorem Drawn.at {at2 : Nat} {σ' : St} (d : Drawn wl nl nums D at' at2 σ σ') {p : Nat × O} (hp : p ∈ D) : σ'[p.1]? = some p.2 := Upd.has d p (List.mem_append_right _ hp)
theorem Sta.add {fs : Facts} {x : Nat} {o : O} (h : Sta σ fs) (hx : σ[x]? = some o) (hn : x ∉ idx fs) : Sta σ (fs ++ [(x, o)]) := by
 refine ⟨h.has.app (Has.cons hx Has.nil), ?_⟩
 rw [show idx (fs ++ [(x, o)]) = idx fs ++ [x] from List.map_append]
 exact List.nodup_append.mpr ⟨h.nd, List.nodup_cons.mpr ⟨List.not_mem_nil, List.nodup_nil⟩, fun a ha b hb z => hn (by rw [List.mem_singleton.mp hb] at z; exact z ▸ ha)⟩
theorem Drawn.sub {a b x : Nat} {o : O} {σ2 σ3 : St} (G : Drawn wl nl nums D at' a σ σ2) (U : Upd (wF wl nl nums a ++ D ++ [(x, o)]) (wF wl nl nums b ++ D ++ [(x, o)]) σ2 σ3) (hx : σ.length ≤ x) : Drawn wl nl nums D at' b σ σ3 where
 has := U.has.left
 nd := G.nd
 other := fun m hm hn => (U.other m (Nat.lt_of_lt_of_le hm (Upd.len G)) fun q => by
  rw [show idx (wF wl nl nums a ++ D ++ [(x, o)]) = idx (wF wl nl nums a ++ D) ++ [x] from List.map_append] at q
  rcases List.mem_append.mp q with q | q
  ·exact hn q
  ·exact absurd hm (Nat.not_lt.mpr (List.mem_singleton.mp q ▸ hx))).trans (Upd.other G m hm hn)
 new := fun m hm => Upd.new G m hm
 len := Nat.le_trans (Upd.len G) (Upd.len U)
theorem DD.mono {D' : Facts} {dl tl cl : Nat} {name : String} {types : List (String × Nat)} (h : DD D dl tl cl name types) (s : ∀ p ∈ D, p ∈ D') : DD D' dl tl cl name types := ⟨s _ h.m1, s _ h.m2, h.hn, h.hc⟩
noncomputable def TC : Nat -> Nat
 | 0 => 1
 | d + 1 => 2 + 2 * TC d
def TermS (N deep : Nat) : Prop := ∀ {Q : Post} {σ : St} {wl nl dl tl cl t : Nat} {nums : List Int} {at' : Nat} {D : Facts} {name : String} {types : List (String × Nat)},
 Sta σ (wF wl nl nums at' ++ D) -> DD D dl tl cl name types -> WW nums -> t < types.length -> at' + TC deep ≤ 10000 ->
 (∀ (τ : Tm) σ' at2, τ.ok types.length deep -> at2 ≤ at' + TC deep -> Drawn wl nl nums D at' at2 σ σ' -> Q τ.enc σ') -> wpF N .law_term [.loc wl, .loc dl, .int t, .int deep] Q σ
theorem cnt_le {types : List (String × Nat)} (hc : ∀ t ∈ types, t.2 ≤ 2) (c : Nat) : cntT types c ≤ 2 := by
 unfold cntT
 split
 ·cases h : types[c]? with
  | none => exact Nat.zero_le _
  | some t => exact hc t (List.mem_of_getElem? h)
 ·split <;> decide
theorem terms_row {N deep : Nat} (TS : TermS N deep) {ρ : Fr} {e : E} {Q : List V -> St -> Prop} {σ : St} {wl nl dl tl cl t k : Nat} {nums : List Int} {at' : Nat} {D : Facts} {name : String} {types : List (String × Nat)}
  (he : ∀ κ (P : Post) σ, wpF N .law_term [.loc wl, .loc dl, .int t, .int deep] P σ -> wpE (wpF N) e κ (kOne P) ρ σ [])
  (h : Sta σ (wF wl nl nums at' ++ D)) (hD : DD D dl tl cl name types) (hw : WW nums) (ht : t < types.length) (hb : at' + k * TC deep ≤ 10000)
  (q : ∀ (l : List Tm) σ' at2, l.length = k -> (∀ τ ∈ l, τ.ok types.length deep) -> at2 ≤ at' + k * TC deep -> Drawn wl nl nums D at' at2 σ σ' -> Q (l.map Tm.enc) σ') :
  compW (fun _ => True) (tgt 0) (fun _ Q σ => Q (.bool true) σ) (fun κ' Q' σ' => wpE (wpF N) e κ' (kOne Q') ρ σ' []) (rngL 0 k) [] Q σ := by
 refine comp_rule (fun acc σ' => ∃ (l : List Tm) (at2 : Nat), acc = l.map Tm.enc /\ (∀ τ ∈ l, τ.ok types.length deep) /\ at2 ≤ at' + l.length * TC deep /\ Drawn wl nl nums D at' at2 σ σ') _ _ _ _
  ⟨[], at', rfl, nofun, Nat.le_add_right _ _, h.refl⟩ (fun _ _ _ => trivial) ?_ ?_
 ·rintro j x acc σ' P hx hj ⟨l, at2, rfl, h1, h2, h4⟩ hP
  have hjk : j < k := by have := (List.getElem?_eq_some_iff.mp hx).1; rw [rng_len] at this; exact this
  have hlj : l.length < k := by rw [List.length_map] at hj; rw [hj, List.length_nil, Nat.zero_add]; exact hjk
  have hT : l.length * TC deep + TC deep ≤ k * TC deep := by rw [<- Nat.succ_mul]; exact Nat.mul_le_mul_right _ hlj
  refine he _ _ _ (TS h4.sta hD hw ht (Nat.le_trans (Nat.add_le_add_right h2 _) (Nat.le_trans (Nat.le_of_eq (Nat.add_assoc _ _ _)) (Nat.le_trans (Nat.add_le_add_left hT _) hb))) fun τ σ'' at3 hτ hat hdr => hP _ _ ⟨l ++ [τ], at3, by rw [List.map_append]; rfl, fun z hz => ?_, ?_, h4.trans hdr⟩)
  ·rcases List.mem_append.mp hz with hz | hz
   ·exact h1 z hz
   ·rw [List.mem_singleton.mp hz]; exact hτ
  ·rw [List.length_append, Nat.add_mul, List.length_singleton, Nat.one_mul, <- Nat.add_assoc]; exact Nat.le_trans hat (Nat.add_le_add_right h2 _)
 ·rintro acc σ' hlen ⟨l, at2, rfl, h1, h2, h4⟩
  have hl : l.length = k := by rw [List.length_map, rng_len, List.length_nil, Nat.zero_add] at hlen; exact hlen
  exact q l σ' at2 hl h1 (hl ▸ h2) h4
theorem class_spec {N deep : Nat} (TS : TermS (N + 1) deep) {Q : Post} {σ : St} {wl nl dl tl cl t c : Nat} {nums : List Int} {at' : Nat} {D : Facts} {name : String} {types : List (String × Nat)}
  (h : Sta σ (wF wl nl nums at' ++ D)) (hD : DD D dl tl cl name types) (hw : WW nums) (ht : t < types.length) (hc : vc types.length c) (hb : at' + 2 * TC deep ≤ 10000)
  (q : ∀ (l : List Tm) σ' at2, l.length = cntT types c -> (∀ τ ∈ l, τ.ok types.length deep) -> at2 ≤ at' + 2 * TC deep -> Drawn wl nl nums D at' at2 σ σ' -> Q (mkC c l).enc σ') :
  wpF (N + 2) .law_class [.loc wl, .loc dl, .int t, .int c, .int deep] Q σ := by
 have hcl := cnt_le hD.hc c
 have hT : cntT types c * TC deep ≤ 2 * TC deep := Nat.mul_le_mul_right _ hcl
 have f1 : fit (cntT types c : Int) := fit_n (Nat.ble_eq_true_of_le (Nat.le_trans hcl (by decide)))
 have l1 : Nat.ble (rngL 0 (cntT types c : Int)).length lim = true := by rw [rng_len]; exact Nat.ble_eq_true_of_le (Nat.le_trans hcl (by decide))
 refine enter5 rfl ?_
 delta body_law_class
 (and_intros)
 refine count_spec (h.has.right _ hD.m1) (h.has.right _ hD.m2) hc hD.hn ?_
 (and_intros)
 refine terms_row TS (fun κ P σ h => ?_) h hD hw ht (Nat.le_trans (Nat.add_le_add_left hT _) hb) fun l σ' at2 hl hok hat hdr => ?_
 ·delta ce_law_class_0; (and_intros)
 ·(and_intros)
  show Q (.tup [.str "c", .int c, .tup (l.map Tm.enc)]) _
  rw [<- enc_mkC (hl ▸ hcl)]
  exact q l _ at2 hl hok (Nat.le_trans hat (Nat.add_le_add_left hT _)) (hdr.trans (hdr.sta.grow _))
end
theorem rows_at (types : List (String × Nat)) {r : Nat} (h : r < types.length + 4) : ∃ c, vc types.length c /\ (clsL types)[r]? = some (.int c) := by
 by_cases hr : r < types.length
 ·exact ⟨r, .inl hr, (List.getElem?_append_left (by rw [rng_len]; exact hr)).trans (rng_at hr)⟩
 ·have hr := Nat.not_lt.mp hr
  rw [List.getElem?_append_right (by rw [rng_len]; exact hr), rng_len]
  obtain ⟨j, rfl⟩ := Nat.le.dest hr
  rw [Nat.add_sub_cancel_left]
  have hj := Nat.le_of_lt_succ (Nat.lt_of_add_lt_add_left h)
  exact ⟨10 + j, .inr ⟨Nat.le_add_right _ _, Nat.add_le_add_left hj 10⟩, by rcases four hj with rfl | rfl | rfl | rfl <;> rfl⟩
theorem drawn_class {N deep : Nat} (TS : TermS (N + 1) deep) {Q : Post} {σ : St} {wl nl dl tl cl t : Nat} {nums : List Int} {at' : Nat} {D : Facts} {name : String} {types : List (String × Nat)}
  (h : Sta σ (wF wl nl nums at' ++ D)) (hD : DD D dl tl cl name types) (hw : WW nums) (ht : t < types.length) (hb : at' + 1 + 2 * TC deep ≤ 10000) {L : Nat} (hL : σ[L]? = some (.list (clsL types))) {σ₀ : St} {at0 : Nat} (G : Drawn wl nl nums D at0 at' σ₀ σ) (hx : σ₀.length ≤ L) (hx' : L ∉ idx (wF wl nl nums at' ++ D))
  (q : ∀ (c : Nat) (l : List Tm) σ' at2, vc types.length c -> l.length = cntT types c -> (∀ τ ∈ l, τ.ok types.length deep) -> at2 ≤ at' + 1 + 2 * TC deep -> Drawn wl nl nums D at0 at2 σ₀ σ' -> Q (mkC c l).enc σ') {P : Post}
  (k : ∀ (r c : Nat) σ', (clsL types)[r]? = some (.int c) -> σ'[L]? = some (.list (clsL types)) -> wpF (N + 2) .law_class [.loc wl, .loc dl, .int t, .int c, .int deep] Q σ' -> P (.int r) σ') :
  wpF (N + 2) .law_draw [.loc wl, .int ((clsL types).length : Nat)] P σ := by
 rw [cls_len]
 have h' := h.add hL hx'
 rw [List.append_assoc] at h'
 refine draw_D h' hw (Nat.le_trans (Nat.le_trans (Nat.le_add_right _ 1) (Nat.le_add_right _ _)) hb) (Nat.succ_pos _) fun r σ' hr hdr => ?_
 obtain ⟨c, hc, hg⟩ := rows_at types hr
 refine k r c σ' hg (hdr.at (p := (L, _)) (List.mem_append_right _ (.head _))) ?_
 refine class_spec TS hdr.sta (hD.mono fun p hp => List.mem_append_left _ hp) hw ht hc hb fun l σ'' at2 h1 h2 h3 h4 => q c l σ'' at2 hc h1 h2 h3 ?_
 have := hdr.trans h4
 unfold Drawn at this
 rw [<- List.append_assoc, <- List.append_assoc] at this
 exact G.sub this hx
theorem lt5 {r : Nat} (h : r < 5) : r = 0 ∨ r = 1 ∨ r = 2 ∨ r = 3 ∨ r = 4 :=
 (ltS h).elim (fun h => (four (Nat.le_of_lt_succ h)).elim .inl fun h => .inr (h.elim .inl fun h => .inr (h.elim .inl fun h => .inr (.inl h)))) fun h => .inr (.inr (.inr (.inr h)))
theorem lt8 {r : Nat} (h : r < 8) : (r = 0 ∨ r = 1 ∨ r = 2 ∨ r = 3 ∨ r = 4) ∨ r = 5 ∨ r = 6 ∨ r = 7 :=
 (ltS h).elim (fun h => (ltS h).elim (fun h => (ltS h).elim (fun h => .inl (lt5 h)) fun h => .inr (.inl h)) fun h => .inr (.inr (.inl h))) fun h => .inr (.inr (.inr h))
theorem ty_at {types : List (String × Nat)} {t : Nat} (ht : t < types.length) : (types.map encT)[t]? = some (.tup [.str types[t].1, .int types[t].2]) := by rw [List.getElem?_map, List.getElem?_eq_getElem ht]; rfl
theorem term_spec0 {N : Nat} : TermS (N + 2) 0 := by
 intro Q σ wl nl dl tl cl t nums at' D name types h hD hw ht hb q
 refine enter4 rfl ?_
 delta body_law_term
 (and_intros)
 refine draw_D (m := 8) h hw (Nat.le_trans (Nat.le_add_right _ _) hb) (by decide) fun r σ' hr hdr => ?_
 have g1 := hdr.at hD.m1
 have g2 := hdr.at hD.m2
 have hty := ty_at ht
 have hty2 := hD.hc _ (List.getElem_mem ht)
 have hq := fun (τ : Tm) (hτ : τ.ok types.length 0) => q τ σ' (at' + 1) hτ (Nat.le_refl _) hdr
 rcases lt8 hr with (rfl | rfl | rfl | rfl | rfl) | rfl | rfl | rfl
 ·(and_intros); exact hq (.p 7) ⟨by decide, by decide⟩
 ·(and_intros); exact hq (.p 13) ⟨by decide, by decide⟩
 ·(and_intros); exact hq .M trivial
 ·by_cases h0 : 0 < types[t].2
  ·have h1 : (0 : Int) < (types[t].2 : Int) := Int.natCast_pos.mpr h0
   (and_intros)
   show Q (.tup [.str "T", .int ((types[t].2 : Int) - ((1 : Nat) : Int))]) _
   rw [<- Int.ofNat_sub h0]
   exact hq (.T (types[t].2 - 1)) (Nat.sub_le_of_le_add hty2)
  ·have h1 : ¬ (0 : Int) < (types[t].2 : Int) := fun h => h0 (Int.natCast_pos.mp h)
   (and_intros)
   exact hq (.p 8) ⟨by decide, by decide⟩
 ·(and_intros); exact hq (.p 9) ⟨by decide, by decide⟩
 ·(and_intros); exact hq (.p 10) ⟨by decide, by decide⟩
 ·(and_intros); exact hq (.p 11) ⟨by decide, by decide⟩
 ·(and_intros); exact hq (.p 12) ⟨by decide, by decide⟩
theorem term_specS {N d : Nat} (hd : d ≤ 10) (TS : TermS (N + 1) d) : TermS (N + 3) (d + 1) := by
 intro Q σ wl nl dl tl cl t nums at' D name types h hD hw ht hb q
 have hb' : at' + 1 + 1 + 2 * TC d ≤ 10000 := Nat.le_trans (Nat.le_of_eq (Nat.add_assoc _ 2 _)) hb
 refine enter4 rfl ?_
 delta body_law_term
 (and_intros)
 refine draw_D (m := 8) h hw (Nat.le_trans (Nat.le_add_right _ _) hb) (by decide) fun r σ' hr hdr => ?_
 have g1 := hdr.at hD.m1
 have g2 := hdr.at hD.m2
 have hty := ty_at ht
 have hty2 := hD.hc _ (List.getElem_mem ht)
 have z0 : ¬ ((d + 1 : Nat) : Int) = 0 := fun e => Nat.succ_ne_zero d (Int.ofNat.inj e)
 have z1 : ((d + 1 : Nat) : Int) - 1 = (d : Int) := show (d : Int) + 1 - 1 = d from Int.add_sub_cancel _ _
 have hq := fun (τ : Tm) (hτ : τ.ok types.length (d + 1)) => q τ σ' (at' + 1) hτ (Nat.add_le_add_left (Nat.le_trans (by decide) (Nat.le_add_right 2 _)) _) hdr
 by_cases h4 : 4 < r
 ·have y1 : ¬ (r : Int) < 2 := fun h => Nat.lt_irrefl _ (Nat.lt_trans h4 (Nat.lt_trans (Int.ofNat_lt.mp h) (by decide)))
  have y2 : ¬ (r : Int) = 2 := fun h => by rw [Int.ofNat.inj h] at h4; exact absurd h4 (by decide)
  have y3 : ¬ (r : Int) = 3 := fun h => by rw [Int.ofNat.inj h] at h4; exact absurd h4 (by decide)
  have y4 : ¬ (r : Int) = 4 := fun h => by rw [Int.ofNat.inj h] at h4; exact absurd h4 (by decide)
  (and_intros)
  refine classes_spec g1 g2 hD.hn fun a b => ?_
  have G1 : Drawn wl nl nums D (at' + 1) (at' + 1) σ' (σ' ++ [a] ++ [b] ++ [.list (clsL types)]) := by
   rw [List.append_assoc, List.append_assoc]; exact hdr.sta.grow _
  have hL : σ'.length ≤ (σ' ++ [a] ++ [b]).length := by rw [List.append_assoc, List.length_append]; exact Nat.le_add_right _ _
  have g3 : (σ' ++ [a] ++ [b] ++ [O.list (clsL types)])[(σ' ++ [a] ++ [b]).length]? = some (.list (clsL types)) := lk_new
  (and_intros)
  refine drawn_class TS G1.sta hD hw ht hb' g3 (hdr.trans G1) (Nat.le_trans hdr.len hL) (fun q => Nat.not_lt.mpr hL (hdr.has.lt q)) (fun c l σ3 at2 hc h1 h2 h3 h4 => q (mkC c l) σ3 at2 (ok_mkC hc h2) (Nat.le_trans h3 (Nat.le_of_eq (Nat.add_assoc _ 2 _))) h4) fun r c σ3 e1 e2 k => ?_
  (and_intros)
  rw [z1]; exact k
 ·rcases lt5 (Nat.lt_succ_of_le (Nat.not_lt.mp h4)) with rfl | rfl | rfl | rfl | rfl
  ·(and_intros); exact hq (.p 7) ⟨by decide, by decide⟩
  ·(and_intros); exact hq (.p 13) ⟨by decide, by decide⟩
  ·(and_intros); exact hq .M trivial
  ·by_cases h0 : 0 < types[t].2
   ·have h1 : (0 : Int) < (types[t].2 : Int) := Int.natCast_pos.mpr h0
    (and_intros)
    show Q (.tup [.str "T", .int ((types[t].2 : Int) - ((1 : Nat) : Int))]) _
    rw [<- Int.ofNat_sub h0]
    exact hq (.T (types[t].2 - 1)) (Nat.sub_le_of_le_add hty2)
   ·have h1 : ¬ (0 : Int) < (types[t].2 : Int) := fun h => h0 (Int.natCast_pos.mp h)
    (and_intros)
    exact hq (.p 8) ⟨by decide, by decide⟩
  ·(and_intros)
   rw [z1]
   refine wpF_le (Nat.le_succ _) (TS hdr.sta hD hw ht (Nat.le_trans (by omega) hb') fun τ σ'' at2 hτ hat hd2 => ?_)
   (and_intros)
   exact q (.a τ) σ'' at2 hτ (Nat.le_trans hat (by simp only [TC]; omega)) (hdr.trans hd2)
theorem term_spec1 {N : Nat} : TermS (N + 4) 1 := term_specS (by decide) term_spec0
theorem term_spec2 {N : Nat} : TermS (N + 6) 2 := term_specS (by decide) term_spec1
theorem ok_succ {nt : Nat} : ∀ {t : Tm} {m : Nat}, t.ok nt m -> t.ok nt (m + 1)
 | .p _, 0, h | .p _, _ + 1, h => h
 | .M, _, _ => trivial
 | .T _, 0, h | .T _, _ + 1, h => h
 | .c0 _, 0, h | .c0 _, _ + 1, h => h
 | .a t, _ + 1, h => ok_succ (t := t) h
 | .c1 _ _, _ + 1, h => ⟨h.1, ok_succ h.2⟩
 | .c2 _ _ _, _ + 1, h => ⟨h.1, ok_succ h.2.1, ok_succ h.2.2⟩
structure Row where
 op : Nat
 c : Nat
 args : List Tm
 margs : List Tm
noncomputable def Row.owner (r : Row) : Tm := mkC r.c r.args
noncomputable def encR (r : Row) : V := .tup [.int r.op, r.owner.enc, .tup (r.margs.map Tm.enc)]
structure Rwf (nt : Nat) (r : Row) : Prop where
 op : r.op < 3
 c : vc nt r.c
 al : r.args.length ≤ 2
 ao : ∀ τ ∈ r.args, τ.ok nt 2
 ml : r.margs.length = 1 ∨ r.margs.length = 2
 mo : ∀ τ ∈ r.margs, τ.ok nt 2
theorem lim_of {n : Nat} (h : n ≤ 100000) : Nat.ble n lim = true := Nat.ble_eq_true_of_le h
theorem lawrow_spec {N : Nat} {Q : Post} {σ : St} {wl nl dl tl cl t : Nat} {nums : List Int} {at' : Nat} {D : Facts} {name : String} {types : List (String × Nat)}
  (h : Sta σ (wF wl nl nums at' ++ D)) (hD : DD D dl tl cl name types) (hw : WW nums) (ht : t < types.length) (hb : at' + 40 ≤ 10000)
  (q : ∀ (r : Row) σ' at2, Rwf types.length r -> at2 ≤ at' + 40 -> Drawn wl nl nums D at' at2 σ σ' -> Q (encR r) σ') :
  wpF (N + 10) .law_row [.loc wl, .loc dl, .int t] Q σ := by
 refine enter3 rfl ?_
 delta body_law_row
 (and_intros)
 refine classes_spec (h.has.right _ hD.m1) (h.has.right _ hD.m2) hD.hn fun a b => ?_
 have G1 : Drawn wl nl nums D at' at' σ (σ ++ [a] ++ [b] ++ [.list (clsL types)]) := by
  rw [List.append_assoc, List.append_assoc]; exact h.grow _
 have hL : σ.length ≤ (σ ++ [a] ++ [b]).length := by rw [List.append_assoc, List.length_append]; exact Nat.le_add_right _ _
 have g3 : (σ ++ [a] ++ [b] ++ [O.list (clsL types)])[(σ ++ [a] ++ [b]).length]? = some (.list (clsL types)) := lk_new
 (and_intros)
 apply drawn_class (N := N + 7) (deep := 1) (term_spec1 (N := N + 4)) G1.sta hD hw ht (Nat.le_trans (Nat.le_add_right (at' + 9) 31) hb) g3 G1 hL (fun q => Nat.not_lt.mpr hL (h.has.lt q))
 case k =>
  intro r c σ3 e1 e2 k
  (and_intros)
  exact k
 intro c l σ3 at2 hc h1 h2 h3 h4
 replace h3 : at2 ≤ at' + 9 := h3
 (and_intros)
 refine draw_D (m := 2) h4.sta hw (bd (k' := 0) hb h3 rfl) (by decide) fun r σ4 hr h5 => ?_
 have hr' : r ≤ 2 := Nat.le_of_lt hr
 have e1 : (2 : Int) - (r : Int) = ((2 - r : Nat) : Int) := (Int.ofNat_sub hr').symm
 have f2 : fit ((2 - r : Nat) : Int) := fit_n (Nat.ble_eq_true_of_le (Nat.le_trans (Nat.sub_le _ _) (by decide)))
 have l1 : Nat.ble (rngL 0 ((2 - r : Nat) : Int)).length lim = true := by rw [rng_len]; exact lim_of (Nat.le_trans (Nat.sub_le _ _) (by decide))
 rw [<- e1] at f2 l1
 (and_intros)
 have h3' : at2 + 1 ≤ at' + 10 := Nat.succ_le_succ h3
 have h3'' : at2 + 1 + 1 ≤ at' + 11 := Nat.succ_le_succ h3'
 refine draw_D (m := 3) h5.sta hw (bd (k' := 0) hb h3' rfl) (by decide) fun op σ5 hop h6 => ?_
 (and_intros)
 rw [e1]
 have hT : (2 - r) * TC 2 ≤ 20 := Nat.mul_le_mul_right _ (Nat.sub_le _ _)
 refine terms_row (deep := 2) (term_spec2 (N := N + 3)) (fun κ P σ h => ?_) h6.sta hD hw ht (Nat.le_trans (Nat.add_le_add_left hT _) (bd hb h3'' rfl)) fun ml σ6 at3 hl hok hat h7 => ?_
 ·delta ce_law_row_0; (and_intros); exact h
 (and_intros)
 exact q ⟨op, c, l, ml⟩ _ at3 ⟨hop, hc, h1 ▸ cnt_le hD.hc c, fun τ hτ => ok_succ (h2 τ hτ), by rw [hl]; rcases ltS hr with h | rfl; (rw [Nat.lt_one_iff.mp h]; exact .inr rfl); exact .inl rfl, hok⟩ (bl h3'' (Nat.le_trans hat (Nat.add_le_add_left hT _)) rfl) ((((h4.trans h5).trans h6).trans h7).trans (h7.sta.grow _))
theorem idx_app {a b : Facts} : idx (a ++ b) = idx a ++ idx b := List.map_append
theorem idx_cons {n : Nat} {o : O} {b : Facts} : idx ((n, o) :: b) = n :: idx b := rfl
theorem mem_mid {α : Type} {a : α} {A B : List α} : a ∈ A ++ a :: B := List.mem_append_right _ (.head _)
theorem Sta.setAt {σ : St} {n : Nat} {o o' : O} {A B : Facts} (s : Sta σ (A ++ (n, o) :: B)) : Upd (A ++ (n, o) :: B) (A ++ (n, o') :: B) σ (σ.set n o') := by
 obtain ⟨h, nd⟩ := s
 have e : idx (A ++ (n, o') :: B) = idx (A ++ (n, o) :: B) := by rw [idx_app, idx_app]; rfl
 have nd' := nd
 rw [idx_app, idx_cons] at nd'
 obtain ⟨n1, n2, n3⟩ := List.nodup_append.mp nd'
 have n4 := (List.nodup_cons.mp n2).1
 refine ⟨fun p hp => ?_, e ▸ nd, fun m hm hf => List.getElem?_set_ne fun z => hf (by rw [<- z]; exact List.mem_map_of_mem (f := Prod.fst) mem_mid), fun m hm => .inl (e ▸ hm), Nat.le_of_eq List.length_set.symm⟩
 rcases List.mem_append.mp hp with q | q
 ·exact lk_ne (fun z => n3 p.1 (List.mem_map_of_mem q) n (.head _) z.symm) (h p (List.mem_append_left _ q))
 ·rcases List.mem_cons.mp q with rfl | q
  ·exact lk_set (h _ mem_mid)
  ·exact lk_ne (fun z => n4 (z ▸ List.mem_map_of_mem q)) (h p (List.mem_append_right _ (.tail _ q)))
theorem Sta.pushR {σ : St} {o : O} {fs : Facts} (s : Sta σ fs) : Upd fs (fs ++ [(σ.length, o)]) σ (σ ++ [o]) := by
 have U := Upd.push (o := o) s.has s.nd
 have S := (s.grow [o]).sta.add (o := o) lk_new fun q => Nat.lt_irrefl _ (s.has.lt q)
 refine ⟨S.has, S.nd, U.other, fun m hm => ?_, U.len⟩
 rw [idx_app] at hm
 rcases List.mem_append.mp hm with q | q
 ·exact .inl q
 ·exact .inr (Nat.le_of_eq (List.mem_singleton.mp q).symm)
noncomputable def cF (cl : Nat) (code : List (Nat × List Row)) : Facts := (cl, .list (code.map fun p => V.loc p.1)) :: code.map fun p => (p.1, O.list (p.2.map encR))
noncomputable def dF (dl tl cl : Nat) (name : String) (types : List (String × Nat)) (code : List (Nat × List Row)) : Facts := (dl, dO tl cl name) :: (tl, .list (types.map encT)) :: cF cl code
theorem dF_DD {D : Facts} {dl tl cl : Nat} {name : String} {types : List (String × Nat)} {code : List (Nat × List Row)} (hn : types.length ≤ 9) (hc : ∀ t ∈ types, t.2 ≤ 2) : DD (D ++ dF dl tl cl name types code) dl tl cl name types :=
 ⟨List.mem_append_right _ (.head _), List.mem_append_right _ (.tail _ (.head _)), hn, hc⟩
structure Dwf (name : String) (types : List (String × Nat)) (code : List (Nat × List Row)) : Prop where
 nm : name = "app" ∨ name = "apq" ∨ name = "lib"
 tl : 1 ≤ types.length /\ types.length ≤ 4
 tc : ∀ t ∈ types, t.2 ≤ 2 /\ (t.1 = "A" ∨ t.1 = "B")
 cl : code.length = types.length
 rl : ∀ p ∈ code, p.2.length ≤ 2 /\ ∀ r ∈ p.2, Rwf types.length r
 c0 : ∀ p, code[0]? = some p -> p.2 ≠ []
theorem rows_row {N : Nat} {ρ : Fr} {e : E} {Q : List V -> St -> Prop} {σ : St} {wl nl dl tl cl t k : Nat} {nums : List Int} {at' : Nat} {D : Facts} {name : String} {types : List (String × Nat)}
  (he : ∀ κ (P : Post) σ, wpF (N + 10) .law_row [.loc wl, .loc dl, .int t] P σ -> wpE (wpF (N + 10)) e κ (kOne P) ρ σ [])
  (h : Sta σ (wF wl nl nums at' ++ D)) (hD : DD D dl tl cl name types) (hw : WW nums) (ht : t < types.length) (hb : at' + k * 40 ≤ 10000)
  (q : ∀ (l : List Row) σ' at2, l.length = k -> (∀ r ∈ l, Rwf types.length r) -> at2 ≤ at' + k * 40 -> Drawn wl nl nums D at' at2 σ σ' -> Q (l.map encR) σ') :
  compW (fun _ => True) (tgt 0) (fun _ Q σ => Q (.bool true) σ) (fun κ' Q' σ' => wpE (wpF (N + 10)) e κ' (kOne Q') ρ σ' []) (rngL 0 k) [] Q σ := by
 refine comp_rule (fun acc σ' => ∃ (l : List Row) (at2 : Nat), acc = l.map encR /\ (∀ r ∈ l, Rwf types.length r) /\ at2 ≤ at' + l.length * 40 /\ Drawn wl nl nums D at' at2 σ σ') _ _ _ _
  ⟨[], at', rfl, nofun, Nat.le_add_right _ _, h.refl⟩ (fun _ _ _ => trivial) ?_ ?_
 ·rintro j x acc σ' P hx hj ⟨l, at2, rfl, h1, h2, h4⟩ hP
  have hjk : j < k := by have := (List.getElem?_eq_some_iff.mp hx).1; rw [rng_len] at this; exact this
  have hlj : l.length < k := by rw [List.length_map] at hj; rw [hj, List.length_nil, Nat.zero_add]; exact hjk
  have hT : l.length * 40 + 40 ≤ k * 40 := by rw [<- Nat.succ_mul]; exact Nat.mul_le_mul_right _ hlj
  refine he _ _ _ (lawrow_spec h4.sta hD hw ht (Nat.le_trans (Nat.add_le_add_right h2 40) (Nat.le_trans (Nat.le_of_eq (Nat.add_assoc _ _ _)) (Nat.le_trans (Nat.add_le_add_left hT _) hb))) fun r σ'' at3 hr hat hdr => hP _ _ ⟨l ++ [r], at3, by rw [List.map_append]; rfl, fun z hz => ?_, ?_, h4.trans hdr⟩)
  ·rcases List.mem_append.mp hz with hz | hz
   ·exact h1 z hz
   ·rw [List.mem_singleton.mp hz]; exact hr
  ·rw [List.length_append, Nat.add_mul, <- Nat.add_assoc]; exact Nat.le_trans hat (Nat.add_le_add_right h2 _)
 ·rintro acc σ' hlen ⟨l, at2, rfl, h1, h2, h4⟩
  have hl : l.length = k := by rw [List.length_map, rng_len, List.length_nil, Nat.zero_add] at hlen; exact hlen
  exact q l σ' at2 hl h1 (hl ▸ h2) h4
theorem aab {r : Nat} (h : r < 3) : ∃ s, (s = "A" ∨ s = "B") /\ strAt "AAB" r = some s := by
 rcases four (Nat.le_of_lt h) with rfl | rfl | rfl | rfl
 ·exact ⟨"A", .inl rfl, by decide⟩
 ·exact ⟨"A", .inl rfl, by decide⟩
 ·exact ⟨"B", .inr rfl, by decide⟩
 ·exact absurd h (by decide)
theorem Has.get {σ : St} {fs : Facts} (h : Has σ fs) {n : Nat} {o : O} (m : (n, o) ∈ fs) : σ[n]? = some o := h (n, o) m
theorem sh1 {α : Type} {X D B : List α} {x y : α} : X ++ (D ++ x :: y :: B) = (X ++ (D ++ [x])) ++ y :: B := by rw [List.append_assoc, List.append_assoc]; rfl
theorem sh2 {α : Type} {X D B : List α} {x y z : α} : X ++ (D ++ x :: y :: z :: B) = (X ++ (D ++ [x, y])) ++ z :: B := by rw [List.append_assoc, List.append_assoc]; rfl
theorem inD {α : Type} {X D B : List α} {x : α} (h : x ∈ B) : x ∈ X ++ (D ++ B) := List.mem_append_right _ (List.mem_append_right _ h)
section
variable {wl nl dl tl cl : Nat} {nums : List Int} {at' : Nat} {D : Facts} {name : String} {types : List (String × Nat)} {code : List (Nat × List Row)} {σ : St}
theorem addType {ty : String × Nat} (h : Sta σ (wF wl nl nums at' ++ (D ++ dF dl tl cl name types code))) :
  Upd (wF wl nl nums at' ++ (D ++ dF dl tl cl name types code)) (wF wl nl nums at' ++ (D ++ dF dl tl cl name (types ++ [ty]) code)) σ (σ.set tl (.list (types.map encT ++ [encT ty]))) := by
 unfold dF at h ⊢
 rw [sh1] at h ⊢
 rw [sh1, List.map_append]
 exact h.setAt
theorem addCode {rs : List Row} (h : Sta σ (wF wl nl nums at' ++ (D ++ dF dl tl cl name types code))) :
  Upd (wF wl nl nums at' ++ (D ++ dF dl tl cl name types code)) (wF wl nl nums at' ++ (D ++ dF dl tl cl name types (code ++ [(σ.length, rs)]))) σ ((σ ++ [O.list (rs.map encR)]).set cl (O.list (code.map (fun (p : Nat × List Row) => V.loc p.1) ++ [V.loc σ.length]))) := by
 have U1 := h.pushR (o := .list (rs.map encR))
 refine U1.trans ?_
 have S := U1.sta
 unfold dF cF at S ⊢
 rw [List.append_assoc, List.append_assoc, List.cons_append, List.cons_append, List.cons_append, sh2] at S ⊢
 rw [sh2, List.map_append, List.map_append]
 exact S.setAt
end
theorem desc_b0 {N : Nat} {R : Post} {Nn : Nt} {σ : St} {wl nl dl tl cl : Nat} {nums : List Int} {at' : Nat} {D : Facts} {name : String} {types : List (String × Nat)} {code : List (Nat × List Row)} {x : V} {y : Option V}
  (h : Sta σ (wF wl nl nums at' ++ (D ++ dF dl tl cl name types code))) (hw : WW nums) (hb : at' + 2 ≤ 10000) (hn : types.length ≤ 9)
  (q : ∀ (ty : String × Nat) σ', ty.2 ≤ 2 -> (ty.1 = "A" ∨ ty.1 = "B") -> Upd (wF wl nl nums at' ++ (D ++ dF dl tl cl name types code)) (wF wl nl nums (at' + 2) ++ (D ++ dF dl tl cl name (types ++ [ty]) code)) σ σ' -> Nn [some (.loc wl), some (.loc dl), some x, y] σ') :
  wpS (wpF (N + 11)) R lb_law_described_0 Nn [some (.loc wl), some (.loc dl), some x, y] σ := by
 have g1 : σ[dl]? = some (dO tl cl name) := h.has.get (inD (.head _))
 have g2 : σ[tl]? = some (.list (types.map encT)) := h.has.get (inD (.tail _ (.head _)))
 delta lb_law_described_0
 (and_intros)
 refine draw_D (m := 3) h hw (Nat.le_trans (Nat.le_add_right _ 2) hb) (by decide) fun r σ1 hr h1 => ?_
 obtain ⟨s, hs, hst⟩ := aab hr
 have r1 : Nat.ble r 1000000 = true := Nat.ble_eq_true_of_le (Nat.le_trans (Nat.le_of_lt hr) (by decide))
 (and_intros)
 refine draw_D (m := 3) h1.sta hw (Nat.le_trans (Nat.le_add_right _ 1) hb) (by decide) fun r2 σ2 hr2 h2 => ?_
 have g3 : σ2[tl]? = some (.list (types.map encT)) := h2.has.get (inD (.tail _ (.head _)))
 have l1 : Nat.blt (types.map encT).length lim = true := by rw [List.length_map]; exact lim_of (Nat.le_trans (Nat.succ_le_succ hn) (by decide))
 (and_intros)
 exact q (s, r2) _ (Nat.le_of_lt_succ hr2) hs ((Upd.trans h1 h2).trans (addType h2.sta))
theorem desc_b1 {N : Nat} {R : Post} {Nn : Nt} {σ : St} {wl nl dl tl cl t : Nat} {nums : List Int} {at' : Nat} {D : Facts} {name : String} {types : List (String × Nat)} {code : List (Nat × List Row)} {y : Option V}
  (h : Sta σ (wF wl nl nums at' ++ (D ++ dF dl tl cl name types code))) (hw : WW nums) (hb : at' + 81 ≤ 10000) (hn : types.length ≤ 9) (hc : ∀ t ∈ types, t.2 ≤ 2) (ht : t < types.length) (hcl : code.length ≤ 9)
  (q : ∀ (x : Nat) (rs : List Row) (v : V) σ' at2, rs.length ≤ 2 -> (t = 0 -> rs ≠ []) -> (∀ r ∈ rs, Rwf types.length r) -> at2 ≤ at' + 81 -> Upd (wF wl nl nums at' ++ (D ++ dF dl tl cl name types code)) (wF wl nl nums at2 ++ (D ++ dF dl tl cl name types (code ++ [(x, rs)]))) σ σ' -> Nn [some (.loc wl), some (.loc dl), some (.int t), some v] σ') :
  wpS (wpF (N + 11)) R lb_law_described_1 Nn [some (.loc wl), some (.loc dl), some (.int t), y] σ := by
 have l1 : Nat.blt (code.map fun p : Nat × List Row => V.loc p.1).length lim = true := by rw [List.length_map]; exact lim_of (Nat.le_trans (Nat.succ_le_succ hcl) (by decide))
 delta lb_law_described_1
 refine cut_set fun W hW => ?_
 (and_intros)
 refine draw_D (m := 2) h hw (Nat.le_trans (Nat.le_add_right _ 81) hb) (by decide) fun r σ1 hr h1 => ?_
 have g1 : σ1[dl]? = some (dO tl cl name) := h1.has.get (inD (.head _))
 have g5 : σ1[cl]? = some (.list (code.map fun p => V.loc p.1)) := h1.has.get (inD (.tail _ (.tail _ (.head _))))
 have key : ∀ (k : Nat) (i : Int), i = (k : Int) -> k ≤ 2 -> (t = 0 -> k ≠ 0) -> wpS (wpF (N + 11)) R (.expr (.meth (.idx (.lv 1) (.const (.str "code"))) .append (.cons (.comp ce_law_described_0 (.call (.gv (.bi .range) "range") (.cons (.lv 3) .nil)) .nil 0 ["j"]) .nil)) .nil) Nn [some (.loc wl), some (.loc dl), some (.int t), some (.int i)] σ1 := by
  rintro k i rfl hk hk0
  have f1 : fit (k : Int) := fit_n (Nat.ble_eq_true_of_le (Nat.le_trans hk (by decide)))
  have l2 : Nat.ble (rngL 0 (k : Int)).length lim = true := by rw [rng_len]; exact lim_of (Nat.le_trans hk (by decide))
  have hk40 : k * 40 ≤ 80 := Nat.mul_le_mul_right 40 hk
  (and_intros)
  refine rows_row (fun κ P σ h => ?_) h1.sta (dF_DD hn hc) hw ht (Nat.le_trans (Nat.add_le_add_left hk40 _) (by rw [Nat.add_assoc]; exact hb)) fun l σ2 at2 hl hok hat h2 => ?_
  ·delta ce_law_described_0; (and_intros)
  have g4 : σ2[cl]? = some (.list (code.map fun p => V.loc p.1)) := h2.has.get (inD (.tail _ (.tail _ (.head _))))
  (and_intros)
  exact q _ l _ _ at2 (hl ▸ hk) (fun e z => hk0 e (by rw [<- hl, z]; rfl)) hok (by rw [Nat.add_assoc] at hat; exact Nat.le_trans hat (Nat.add_le_add_left (Nat.add_le_add_left hk40 1) _)) (Upd.trans (Upd.trans h1 h2) (addCode h2.sta))
 by_cases h0 : t = 0
 ·subst h0
  (and_intros)
  exact hW _ _ (key (r + 1) _ rfl hr fun _ => Nat.succ_ne_zero r)
 ·have z0 : ¬ (t : Int) = 0 := fun e => h0 (Int.ofNat.inj e)
  (and_intros)
  exact hW _ _ (key r _ (Int.add_zero _) (Nat.le_of_lt hr) fun e => absurd e h0)
theorem Upd.perm {fs fs' gs : Facts} {σ σ' : St} (U : Upd fs fs' σ σ') (p : fs'.Perm gs) : Upd fs gs σ σ' :=
 ⟨fun q hq => U.has q (p.mem_iff.mpr hq), (p.map Prod.fst).nodup_iff.mp U.nd, U.other, fun n hn => U.new n ((p.map Prod.fst).mem_iff.mpr hn), U.len⟩
theorem perm3 {α : Type} (a b c : α) : [a, b, c].Perm [c, a, b] := (List.Perm.cons a (List.Perm.swap c b [])).trans (List.Perm.swap c a [b])
theorem name_at {r : Nat} (h : r < 3) : ∃ name : String, (name = "app" ∨ name = "apq" ∨ name = "lib") /\ [V.str "app", V.str "apq", V.str "lib"][r]? = some (.str name) := by
 rcases four (Nat.le_of_lt h) with rfl | rfl | rfl | rfl
 ·exact ⟨"app", .inl rfl, rfl⟩
 ·exact ⟨"apq", .inr (.inl rfl), rfl⟩
 ·exact ⟨"lib", .inr (.inr rfl), rfl⟩
 ·exact absurd h (by decide)
theorem all_snoc {α : Type} {P : α -> Prop} {l : List α} {a : α} (h : ∀ x ∈ l, P x) (ha : P a) : ∀ x ∈ l ++ [a], P x := fun x hx => (List.mem_append.mp hx).elim (h x) fun q => List.mem_singleton.mp q ▸ ha
theorem in_rng {j k : Nat} {x : V} (h : (rngL 0 (k : Int))[j]? = some x) : j < k /\ x = .int j := by
 have hj : j < k := by have := (List.getElem?_eq_some_iff.mp h).1; rw [rng_len] at this; exact this
 rw [rng_at hj] at h; exact ⟨hj, (Option.some.inj h).symm⟩
theorem c0_snoc {code : List (Nat × List Row)} {x j : Nat} {rs : List Row} (h0 : ∀ p, code[0]? = some p -> p.2 ≠ []) (hl : code.length = j) (h : j = 0 -> rs ≠ []) : ∀ p, (code ++ [(x, rs)])[0]? = some p -> p.2 ≠ [] := by
 cases code with
 | nil => intro p hp; cases hp; exact h hl.symm
 | cons z zs => exact fun p hp => h0 p hp
theorem described_spec {N : Nat} {Q : Post} {σ : St} {wl nl : Nat} {nums : List Int} {at' : Nat} {D : Facts} (h : Sta σ (wF wl nl nums at' ++ D)) (hw : WW nums) (hb : at' + 400 ≤ 10000)
  (q : ∀ dl tl cl name types code σ' at2, Dwf name types code -> types.length ≤ 3 -> at2 ≤ at' + 400 -> Upd (wF wl nl nums at' ++ D) (wF wl nl nums at2 ++ (D ++ dF dl tl cl name types code)) σ σ' -> Q (.loc dl) σ') : wpF (N + 12) .law_described [.loc wl] Q σ := by
 refine enter1 rfl ?_
 delta body_law_described
 refine cut_set fun W hW => ?_
 (and_intros)
 refine draw_D (m := 3) h hw (Nat.le_trans (Nat.le_add_right _ 400) hb) (by decide) fun r σ1 hr h1 => ?_
 obtain ⟨name, hnm, e1⟩ := name_at hr
 (and_intros)
 have A := h1.sta.pushR (o := O.list [])
 have B := A.trans (A.sta.pushR (o := O.list []))
 have C := B.trans (B.sta.pushR (o := dO σ1.length (σ1 ++ [O.list []]).length name))
 rw [List.append_assoc, List.append_assoc, List.append_assoc] at C
 have U0 : Upd (wF wl nl nums (at' + 1) ++ D) (wF wl nl nums (at' + 1) ++ (D ++ dF (σ1 ++ [O.list []] ++ [O.list []]).length σ1.length (σ1 ++ [O.list []]).length name [] [])) σ1 (σ1 ++ [O.list []] ++ [O.list []] ++ [dO σ1.length (σ1 ++ [O.list []]).length name]) :=
  C.perm (List.Perm.append_left _ (List.Perm.append_left _ (perm3 _ _ _)))
 refine hW _ _ ?_
 generalize (σ1 ++ [O.list []] ++ [O.list []]).length = dl at U0 ⊢
 generalize σ1 ++ [O.list []] ++ [O.list []] ++ [O.dict _] = σ2 at U0 ⊢
 generalize (σ1 ++ [O.list []]).length = cl at U0 ⊢
 generalize σ1.length = tl at U0 ⊢
 have V0 := Upd.trans h1 U0
 (and_intros)
 refine draw_D (m := 3) U0.sta hw (bd (j := 1) (k' := 0) hb (Nat.le_refl _) rfl) (by decide) fun r2 σ3 hr2 h3 => ?_
 have f2 : fit ((1 : Int) + (r2 : Int)) := fit_n (k := 1 + r2) (Nat.ble_eq_true_of_le (Nat.le_trans (Nat.add_le_add_left (Nat.le_of_lt hr2) 1) (by decide)))
 (and_intros)
 refine for_rule (fun a => [some (.loc wl), some (.loc dl), a.1, none]) (fun k (a : Option V × List (String × Nat)) σ' => a.2.length = k /\ (∀ t ∈ a.2, t.2 ≤ 2 /\ (t.1 = "A" ∨ t.1 = "B")) /\
  Upd (wF wl nl nums at' ++ D) (wF wl nl nums (at' + 2 + 2 * k) ++ (D ++ dF dl tl cl name a.2 [])) σ σ') (rngL 0 ((1 + r2 : Nat) : Int)) 0 _ (none, []) _ ⟨rfl, nofun, V0.trans h3⟩ (fun _ _ _ _ => trivial) (fun j x a σ' N' hx hI hN => ?_) fun a σ' hI => ?_
 ·have hj : a.2.length ≤ 3 := by rw [hI.1, Nat.zero_add]; exact Nat.le_of_lt (Nat.lt_of_lt_of_le (in_rng hx).1 (Nat.add_le_add_left (Nat.le_of_lt_succ hr2) 1))
  exact desc_b0 hI.2.2.sta hw (by rw [Nat.add_assoc, Nat.add_assoc]; exact Nat.le_trans (Nat.add_le_add_left (Nat.add_le_add_left (Nat.add_le_add_right (Nat.mul_le_mul_left 2 (hI.1 ▸ hj)) 2) 2) at') (Nat.le_trans (Nat.add_le_add_left (by decide) _) hb)) (Nat.le_trans hj (by decide)) fun ty σ'' h1 h2 h3 => hN (some x, a.2 ++ [ty]) _ ⟨by rw [List.length_append, hI.1]; rfl, all_snoc hI.2.1 ⟨h1, h2⟩, hI.2.2.trans h3⟩
 ·have hl : a.2.length = 1 + r2 := hI.1.trans (by rw [rng_len, Nat.zero_add])
  have hn : a.2.length ≤ 3 := by rw [hl]; exact Nat.add_le_add_left (Nat.le_of_lt_succ hr2) 1
  have hU := hI.2.2
  have g1 : σ'[dl]? = some (dO tl cl name) := hU.has.get (inD (.head _))
  have g2 : σ'[tl]? = some (.list (a.2.map encT)) := hU.has.get (inD (.tail _ (.head _)))
  have hm : (a.2.map encT).length = a.2.length := List.length_map _
  have f4 : fit ((a.2.map encT).length : Int) := by rw [hm]; exact fit_n (Nat.ble_eq_true_of_le (Nat.le_trans hn (by decide)))
  have h10 : at' + 2 + 2 * (0 + (rngL 0 ((1 + r2 : Nat) : Int)).length) ≤ at' + 10 := by rw [rng_len, Nat.zero_add, <- hl]; exact Nat.le_trans (Nat.add_le_add_left (Nat.mul_le_mul_left 2 hn) (at' + 2)) (Nat.le_trans (Nat.le_of_eq (Nat.add_assoc at' 2 (2 * 3))) (Nat.add_le_add_left (show 2 + 2 * 3 ≤ 10 by decide) at'))
  delta lk_law_described_0
  (and_intros)
  rw [hm]
  refine for_rule (fun b => [some (.loc wl), some (.loc dl), b.1.1, b.1.2]) (fun k (b : (Option V × Option V) × List (Nat × List Row) × Nat) σ'' => b.2.1.length = k /\ (∀ p ∈ b.2.1, p.2.length ≤ 2 /\ ∀ r ∈ p.2, Rwf a.2.length r) /\ (∀ p, b.2.1[0]? = some p -> p.2 ≠ []) /\
   b.2.2 ≤ at' + 10 + 81 * k /\ Upd (wF wl nl nums at' ++ D) (wF wl nl nums b.2.2 ++ (D ++ dF dl tl cl name a.2 b.2.1)) σ σ'') _ 0 _ ((a.1, none), [], _) _ ⟨rfl, nofun, nofun, h10, hU⟩ (fun _ _ _ _ => trivial) (fun j x b σ'' N' hx hI2 hN => ?_) fun b σ'' hI2 => ?_
  ·have hj := in_rng hx
   rw [hj.2]
   have hj3 : b.2.1.length ≤ 3 := by rw [hI2.1, Nat.zero_add]; exact Nat.le_of_lt (Nat.lt_of_lt_of_le hj.1 hn)
   have hat' : b.2.2 ≤ at' + 253 := Nat.le_trans hI2.2.2.2.1 (Nat.le_trans (Nat.le_of_eq (Nat.add_assoc at' 10 _)) (Nat.add_le_add_left (Nat.add_le_add_left (Nat.mul_le_mul_left 81 (hI2.1 ▸ hj3)) 10) at'))
   exact desc_b1 hI2.2.2.2.2.sta hw (bd hb hat' rfl) (Nat.le_trans hn (by decide)) (fun t ht => (hI.2.1 t ht).1) hj.1 (Nat.le_trans hj3 (by decide)) fun x rs v σ3 at3 q1 q2 q3 q4 q5 => hN ((_, _), b.2.1 ++ [(x, rs)], at3) _ ⟨by rw [List.length_append, hI2.1]; rfl, all_snoc hI2.2.1 ⟨q1, q3⟩, c0_snoc hI2.2.2.1 hI2.1 fun e => q2 ((Nat.zero_add j).symm.trans e), Nat.le_trans q4 (Nat.add_le_add_right hI2.2.2.2.1 81), hI2.2.2.2.2.trans q5⟩
  ·have hI3 : b.2.1.length = a.2.length /\ b.2.2 ≤ at' + 400 := by
    have h1 := hI2.1
    have h2 := hI2.2.2.2.1
    rw [rng_len, Nat.zero_add] at h1 h2
    exact ⟨h1, Nat.le_trans h2 (Nat.le_trans (Nat.add_le_add_left (Nat.mul_le_mul_left 81 hn) (at' + 10)) (Nat.le_trans (Nat.le_of_eq (Nat.add_assoc at' 10 (81 * 3))) (Nat.add_le_add_left (show 10 + 81 * 3 ≤ 400 by decide) at')))⟩
   delta lk_law_described_1
   (and_intros)
   exact q dl tl cl name a.2 b.2.1 σ'' b.2.2 ⟨hnm, ⟨by rw [hl]; exact Nat.le_add_right 1 r2, Nat.le_succ_of_le hn⟩, hI.2.1, hI3.1, hI2.2.1, hI2.2.2.1⟩ hn hI3.2 hI2.2.2.2.2
theorem enc_pure {nt : Nat} : ∀ {t : Tm} {m : Nat}, t.ok nt m -> pureN (2 * m + 2) t.enc = true := by
 have tag : ∀ {n : Nat} {s : String} {v : V}, pureN (n + 1) v = true -> pureN (n + 2) (.tup [.str s, v]) = true := fun h => List.all_eq_true.mpr fun x hx => by
  rcases List.mem_cons.mp hx with rfl | hx
  ·rfl
  ·exact List.mem_singleton.mp hx ▸ h
 have cls : ∀ {n c : Nat} {l : List V}, (∀ x ∈ l, pureN n x = true) -> pureN (n + 2) (.tup [.str "c", .int c, .tup l]) = true := fun h => List.all_eq_true.mpr fun x hx => by
  rcases List.mem_cons.mp hx with rfl | hx
  ·rfl
  ·rcases List.mem_cons.mp hx with rfl | hx
   ·rfl
   ·exact List.mem_singleton.mp hx ▸ List.all_eq_true.mpr h
 intro t
 induction t with
 | p k => exact fun _ => rfl
 | M => exact fun _ => rfl
 | T i => exact fun _ => rfl
 | c0 c => exact fun _ => cls nofun
 | a t ih => intro m h; cases m with
  | zero => exact h.elim
  | succ m => exact tag (pureN_succ _ _ (ih h))
 | c1 c x ih => intro m h; cases m with
  | zero => exact h.elim
  | succ m => exact cls fun z hz => List.mem_singleton.mp hz ▸ ih h.2
 | c2 c x y ih1 ih2 => intro m h; cases m with
  | zero => exact h.elim
  | succ m =>
   refine cls fun z hz => ?_
   rcases List.mem_cons.mp hz with rfl | hz
   ·exact ih1 h.2.1
   ·exact List.mem_singleton.mp hz ▸ ih2 h.2.2
theorem comp_rule2 {lv : St -> Prop} {cond elt : List V -> Post -> St -> Prop} (I : Nat -> List V -> St -> Prop) : ∀ (l : List V) (k : Nat) (acc : List V) (Q : List V -> St -> Prop) (σ : St), I k acc σ -> (∀ k acc σ, I k acc σ -> lv σ) ->
  (∀ j x acc' σ (P : List V -> St -> Prop), l[j]? = some x -> I (k + j) acc' σ -> (∀ a s, I (k + j + 1) a s -> P a s) -> cond [x] (fun c σ1 => IfW (fun _ σ1 _ => elt [x] (fun v σ2 => P (acc' ++ [v]) σ2) σ1) (fun _ σ1 _ => P acc' σ1) [] σ1 [c]) σ) -> (∀ acc' σ, I (k + l.length) acc' σ -> Q acc' σ) -> compW lv (tgt 0) cond elt l acc Q σ
 | [], k, acc, Q, σ, h0, hl, hs, he => ⟨hl _ _ _ h0, he acc σ h0⟩
 | x :: r, k, acc, Q, σ, h0, hl, hs, he => ⟨hl _ _ _ h0, [x], rfl, hs 0 x acc σ (fun a s => compW lv (tgt 0) cond elt r a Q s) rfl h0 fun a s h => comp_rule2 I r (k + 1) a Q s h hl
   (fun j y a s P hy h1 h2 => hs (j + 1) y a s P hy (by rw [<- Nat.add_assoc, Nat.add_right_comm]; exact h1) (by rw [<- Nat.add_assoc, Nat.add_right_comm k j 1]; exact h2)) fun a s h => he a s (by rw [List.length_cons, <- Nat.add_assoc, Nat.add_right_comm]; exact h)⟩
theorem elsewhere_spec {N : Nat} {Q : Post} {σ : St} {wl nl dl tl cl c : Nat} {nums : List Int} {at' : Nat} {D : Facts} {name : String} {types : List (String × Nat)} {l : List Tm}
  (h : Sta σ (wF wl nl nums at' ++ D)) (hD : DD D dl tl cl name types) (hw : WW nums) (hb : at' + 1 ≤ 10000) (hl : l.length ≤ 2) (hc : vc types.length c)
  (q : ∀ (τ : Tm) σ' at2, (τ = .p 7 ∨ ∃ c', vc types.length c' /\ τ = mkC c' l) -> at2 ≤ at' + 1 -> Drawn wl nl nums D at' at2 σ σ' -> Q τ.enc σ') : wpF (N + 2) .law_elsewhere [.loc wl, .loc dl, .tup [.str "c", .int c, .tup (l.map Tm.enc)]] Q σ := by
 have l9 : (clsL types).length ≤ 13 := by rw [cls_len]; exact Nat.add_le_add_right hD.hn 4
 have l1 : Nat.ble (clsL types).length lim = true := lim_of (Nat.le_trans l9 (by decide))
 refine enter3 rfl ?_
 delta body_law_elsewhere
 refine cut_set fun W hW => ?_
 (and_intros)
 refine classes_spec (h.has.right _ hD.m1) (h.has.right _ hD.m2) hD.hn fun a b => ?_
 have G1 : Drawn wl nl nums D at' at' σ (σ ++ [a] ++ [b] ++ [.list (clsL types)]) := by
  rw [List.append_assoc, List.append_assoc]; exact h.grow _
 have hL : σ.length ≤ (σ ++ [a] ++ [b]).length := by rw [List.append_assoc, List.length_append]; exact Nat.le_add_right _ _
 have g3 : (σ ++ [a] ++ [b] ++ [O.list (clsL types)])[(σ ++ [a] ++ [b]).length]? = some (.list (clsL types)) := lk_new
 have g4 := G1.at hD.m1
 have g5 := G1.at hD.m2
 (and_intros)
 generalize σ ++ [a] ++ [b] ++ [O.list (clsL types)] = σ2 at G1 g3 g4 g5 ⊢
 refine comp_rule2 (fun k acc σ' => σ' = σ2 /\ ∃ cs : List Nat, acc = cs.map (fun (c : Nat) => V.int (c : Int)) /\ (∀ c ∈ cs, vc types.length c) /\ cs.length ≤ k) _ 0 _ _ _ ⟨rfl, [], rfl, nofun, Nat.le_refl _⟩ (fun k acc σ' hI => by rw [hI.1]; exact g3) (fun j x acc σ' P hx hI hP => ?_) (fun acc σ' hI => ?_)
 ·have hj : j < types.length + 4 := by have := (List.getElem?_eq_some_iff.mp hx).1; rw [cls_len] at this; exact this
  rw [hI.1]
  refine ex1 (rows_at types hj) fun c' h' => ?_
  obtain rfl := Option.some.inj (hx.symm.trans h'.2)
  have stay : P acc σ2 := hP _ _ ⟨rfl, hI.2.elim fun cs h => ⟨cs, h.1, h.2.1, Nat.le_succ_of_le h.2.2⟩⟩
  have more : P (acc ++ [.int c']) σ2 := hP _ _ ⟨rfl, hI.2.elim fun cs h => ⟨cs ++ [c'], by rw [h.1, List.map_append]; rfl, all_snoc h.2.1 h'.1, by rw [List.length_append]; exact Nat.succ_le_succ h.2.2⟩⟩
  delta cc_law_elsewhere_0
  by_cases hcc : (c' : Int) = c
  ·(and_intros)
  ·(and_intros)
   refine count_spec g4 g5 h'.1 hD.hn ?_
   by_cases hk : (cntT types c' : Int) = ((l.map Tm.enc).length : Nat)
   ·delta ce_law_elsewhere_0; (and_intros)
    exact more
   ·(and_intros)
 ·refine ex1 hI.2 fun cs h' => ?_
  rw [hI.1, h'.1]
  have G2 := G1.trans (G1.sta.grow [O.list (cs.map fun (c : Nat) => V.int (c : Int))])
  have g6 : (σ2 ++ [O.list (cs.map fun (c : Nat) => V.int (c : Int))])[σ2.length]? = some (.list (cs.map fun (c : Nat) => V.int (c : Int))) := lk_new
  refine hW _ _ ?_
  cases cs with
  | nil =>
   (and_intros)
   exact q (.p 7) _ at' (.inl rfl) (Nat.le_succ _) G2
  | cons c0 cs =>
   have z0 : ¬ ((((c0 :: cs).map fun (c : Nat) => V.int (c : Int)).length : Nat) : Int) = 0 := fun e => nomatch e
   (and_intros)
   have h2 := G2.sta.add g6 (fun z => Nat.lt_irrefl _ (G1.has.lt z))
   rw [List.append_assoc] at h2
   rw [List.length_map]
   refine draw_D h2 hw (Nat.le_of_succ_le hb) (Nat.succ_pos _) fun r σ3 hr h3 => ?_
   have g7 : σ3[σ2.length]? = some (.list ((c0 :: cs).map fun (c : Nat) => V.int (c : Int))) := h3.at (p := (σ2.length, _)) (List.mem_append_right _ (.head _))
   have e1 : ((c0 :: cs).map fun (c : Nat) => V.int (c : Int))[r]? = some (.int (c0 :: cs)[r]) := by rw [List.getElem?_map, List.getElem?_eq_getElem hr]; rfl
   (and_intros)
   show Q (.tup [.str "c", .int (c0 :: cs)[r], .tup (l.map Tm.enc)]) _
   rw [<- enc_mkC hl]
   unfold Drawn at h3
   rw [<- List.append_assoc, <- List.append_assoc] at h3
   exact q (mkC (c0 :: cs)[r] l) σ3 (at' + 1) (.inr ⟨_, h'.2.1 _ (List.getElem_mem hr), rfl⟩) (Nat.le_refl _) (Drawn.sub G2 h3 G1.len)
noncomputable def otherTail : S := .ret (.ife (.cmp .Eq (.lv 2) (.tup (.cons (.const (.str "p")) (.cons (.const (.int 7)) .nil)))) (.tup (.cons (.const (.str "p")) (.cons (.const (.int 13)) .nil))) (.tup (.cons (.const (.str "p")) (.cons (.const (.int 7)) .nil)))) .nil
noncomputable def otherC : S := (.set 3 (.call (.gv (.fn .law_draw) "_law_draw") (.cons (.lv 0) (.cons (.const (.int 3)) .nil)))
 (.set 4 (.idx (.lv 2) (.const (.int 2)))
 (.ite (.boo true (.cons (.cmp .Eq (.lv 3) (.const (.int 0))) (.cons (.cmp .Gt (.call (.gv (.bi .len) "len") (.cons (.lv 4) .nil)) (.const (.int 0))) .nil)))
 (.set 5 (.call (.gv (.fn .law_draw) "_law_draw") (.cons (.lv 0) (.cons (.call (.gv (.bi .len) "len") (.cons (.lv 4) .nil)) .nil)))
 (.ret (.tup (.cons (.const (.str "c")) (.cons (.idx (.lv 2) (.const (.int 1))) (.cons (.bin .Add (.bin .Add (.upto (.lv 4) (.lv 5)) (.tup (.cons (.call (.gv (.fn .law_other) "_law_other") (.cons (.lv 0) (.cons (.lv 1) (.cons (.idx (.lv 4) (.lv 5)) .nil)))) .nil))) (.from' (.lv 4) (.bin .Add (.lv 5) (.const (.int 1))))) .nil)))) .nil))
 .nil
 (.ite (.cmp .Lt (.lv 3) (.const (.int 2)))
 (.ret (.call (.gv (.fn .law_elsewhere) "_law_elsewhere") (.cons (.lv 0) (.cons (.lv 1) (.cons (.lv 2) .nil)))) .nil)
 .nil
 .nil))))
noncomputable def otherB : S := .ite (.boo true (.cons (.cmp .Eq (.idx (.lv 2) (.const (.int 0))) (.const (.str "a"))) (.cons (.call (.gv (.fn .law_draw) "_law_draw") (.cons (.lv 0) (.cons (.const (.int 2)) .nil))) .nil)))
 (.ret (.tup (.cons (.const (.str "a")) (.cons (.call (.gv (.fn .law_other) "_law_other") (.cons (.lv 0) (.cons (.lv 1) (.cons (.idx (.lv 2) (.const (.int 1))) .nil)))) .nil))) .nil)
 .nil
 (.ite (.cmp .Eq (.idx (.lv 2) (.const (.int 0))) (.const (.str "c"))) otherC .nil otherTail)
theorem Tm.ok_p7 {nt m : Nat} : (Tm.p 7).ok nt m := by cases m <;> exact ⟨by decide, by decide⟩
theorem Tm.ok_p13 {nt m : Nat} : (Tm.p 13).ok nt m := by cases m <;> exact ⟨by decide, by decide⟩
theorem other_tail {m : Nat} {a b : Option V} {ρ : Fr} {F : FnSem} {R : Post} {N : Nt} {σ : St} {nt : Nat} {τ : Tm} {v : V} (hv : v = τ.enc) (hτ : τ.ok nt m) (hm : m ≤ 15)
  (h7 : R (Tm.p 7).enc σ) (h13 : R (Tm.p 13).enc σ) : wpS F R otherTail N (a :: b :: some v :: ρ) σ := by
 have e1 : pureN 40 v = true := hv ▸ pureN_le (Nat.add_le_add_right (Nat.mul_le_mul_left 2 (Nat.le_trans hm (by decide : 15 ≤ 19))) 2) (enc_pure hτ)
 have d1 := dat_pure σ 40 40 v (Nat.le_refl _) e1
 have d2 : dat σ 40 (.tup [.str "p", .int 7]) = some (pd (.tup [.str "p", .int 7])) := rfl
 delta otherTail
 by_cases hz : v = V.tup [V.str "p", V.int 7]
 ·have e3 : PyData.eqv (pd v) (pd (.tup [.str "p", .int 7])) = true := eqv_t e1 rfl ⟨fun _ => rfl, fun _ => hz⟩
  (and_intros)
  exact h13
 ·have e3 : PyData.eqv (pd v) (pd (.tup [.str "p", .int 7])) = false := eqv_t e1 rfl ⟨fun h => (hz h).elim, fun h => Bool.noConfusion h⟩
  (and_intros)
  exact h7
section
variable {wl nl dl tl cl c m : Nat} {nums : List Int} {at' : Nat} {D : Facts} {name : String} {types : List (String × Nat)} {l : List Tm} {σ : St} {Q : Post}
theorem other_c (hm : m ≤ 15) {W : Nt}
  (h : Sta σ (wF wl nl nums at' ++ D)) (hD : DD D dl tl cl name types) (hw : WW nums) (hl : l.length ≤ 2) (hc : vc types.length c) (hb : at' + (2 * m + 3) ≤ 10000)
  (rec : ∀ (j : Nat) (x : Tm) (Q : Post) σ1 at1, l[j]? = some x -> at1 ≤ at' + 2 -> Drawn wl nl nums D at' at1 σ σ1 ->
   (∀ (x' : Tm) σ' at2, (mkC c (l.set j x')).ok types.length m -> at2 ≤ at' + (2 * m + 3) -> Drawn wl nl nums D at' at2 σ σ' -> Q x'.enc σ') -> wpF (m + 3) .law_other [.loc wl, .loc dl, x.enc] Q σ1)
  (q : ∀ (τ' : Tm) σ' at2, τ'.ok types.length m -> at2 ≤ at' + (2 * m + 3) -> Drawn wl nl nums D at' at2 σ σ' -> Q τ'.enc σ') (ok2 : ∀ c', vc types.length c' -> (mkC c' l).ok types.length m)
  (hW : ∀ e3 e4 e5 σ', Drawn wl nl nums D at' (at' + 1) σ σ' -> W [some (.loc wl), some (.loc dl), some (.tup [.str "c", .int c, .tup (l.map Tm.enc)]), e3, e4, e5] σ') :
  wpS (wpF (m + 3)) Q otherC W [some (.loc wl), some (.loc dl), some (.tup [.str "c", .int c, .tup (l.map Tm.enc)]), none, none, none] σ := by
 have h3 : at' + 3 ≤ at' + (2 * m + 3) := Nat.add_le_add_left (Nat.le_add_left 3 (2 * m)) at'
 have els : ∀ (σ' : St), Drawn wl nl nums D at' (at' + 1) σ σ' -> wpF (m + 3) .law_elsewhere [.loc wl, .loc dl, .tup [.str "c", .int c, .tup (l.map Tm.enc)]] Q σ' := fun σ' hd =>
  elsewhere_spec hd.sta hD hw (Nat.le_trans (Nat.le_trans (Nat.le_succ _) h3) hb) hl hc fun τ σ'' at3 hτ hat3 hd3 => q τ σ'' at3 (hτ.elim (fun e => e ▸ Tm.ok_p7) fun h => h.elim fun c' hc' => hc'.2 ▸ ok2 c' hc'.1) (Nat.le_trans hat3 (Nat.le_trans (Nat.le_succ _) h3)) (hd.trans hd3)
 delta otherC
 (and_intros)
 refine draw_D (m := 3) h hw (Nat.le_trans (Nat.le_add_right _ _) hb) (by decide) fun r σ1 hr h1 => ?_
 have e1 := els σ1 h1
 rcases four (Nat.le_of_lt hr) with rfl | rfl | rfl | rfl
 ·have hlm : (l.map Tm.enc).length = l.length := List.length_map _
  by_cases h0 : (0 : Int) < ((l.map Tm.enc).length : Nat)
  ·have h0' := Int.natCast_pos.mp h0
   (and_intros)
   refine draw_D h1.sta hw (Nat.le_trans (Nat.le_trans (Nat.le_add_right _ 2) h3) hb) h0' fun j σ2 hj h2 => ?_
   rw [hlm] at hj
   have hx : (l.map Tm.enc)[j]? = some l[j].enc := by rw [List.getElem?_map, List.getElem?_eq_getElem hj]; rfl
   have l2 : ∀ x, Nat.ble (List.take j (l.map Tm.enc) ++ [x]).length lim = true := fun x => lim_of (by rw [List.length_append]; exact Nat.le_trans (Nat.add_le_add_right (Nat.le_trans (List.length_take_le' _ _) (Nat.le_trans (Nat.le_of_eq hlm) hl)) 1) (show 3 ≤ 100000 by decide))
   (and_intros)
   refine rec j _ _ σ2 _ (List.getElem?_eq_getElem hj) (Nat.le_refl _) (h1.trans h2) fun x' σ' at2 ok hat hd => ?_
   have l3 := l2 x'.enc
   have ee : List.take j (l.map Tm.enc) ++ [x'.enc] ++ List.drop (j + 1) (l.map Tm.enc) = (l.set j x').map Tm.enc := by
    rw [List.map_set, List.set_eq_take_append_cons_drop, if_pos (hlm ▸ hj), List.append_assoc]; rfl
   have l4 : (l.set j x').length ≤ 2 := by rw [List.length_set]; exact hl
   have l5 : Nat.ble (List.take j (l.map Tm.enc) ++ [x'.enc] ++ List.drop (j + 1) (l.map Tm.enc)).length lim = true := by rw [ee, List.length_map]; exact lim_of (Nat.le_trans l4 (by decide))
   (and_intros)
   rw [ee]
   show Q (.tup [.str "c", .int c, .tup _]) _
   rw [<- enc_mkC l4]
   exact q _ σ' at2 ok hat hd
  ·(and_intros)
 ·(and_intros)
 ·(and_intros)
  exact hW _ _ _ _ h1
 ·exact absurd hr (by decide)
theorem other_leaf {τ : Tm} {s : String} {x : V} (hm : m ≤ 15) (h : Sta σ (wF wl nl nums at' ++ D)) (hτ : τ.ok types.length m) (he : τ.enc = .tup [.str s, x]) (ha : (s == "a") = false) (hc : (s == "c") = false)
  (q : ∀ (τ' : Tm) σ' at2, τ'.ok types.length m -> at2 ≤ at' + (2 * m + 3) -> Drawn wl nl nums D at' at2 σ σ' -> Q τ'.enc σ') : wpF (m + 4) .law_other [.loc wl, .loc dl, τ.enc] Q σ := by
 rw [he]
 refine enter3 (body := otherB) rfl ?_
 delta otherB
 refine cut_ite fun W hW => ?_
 (and_intros)
 refine hW _ _ ?_
 refine cut_ite fun W hW => ?_
 (and_intros)
 refine hW _ _ (other_tail he.symm hτ hm (q _ _ _ Tm.ok_p7 (Nat.le_add_right _ _) h.refl) (q _ _ _ Tm.ok_p13 (Nat.le_add_right _ _) h.refl))
theorem other_cls {τ : Tm} (hm : m ≤ 15) (he : τ = mkC c l)
  (h : Sta σ (wF wl nl nums at' ++ D)) (hD : DD D dl tl cl name types) (hw : WW nums) (hl : l.length ≤ 2) (hc : vc types.length c) (hok : τ.ok types.length m) (hb : at' + (2 * m + 3) ≤ 10000)
  (rec : ∀ (j : Nat) (x : Tm) (Q : Post) σ1 at1, l[j]? = some x -> at1 ≤ at' + 2 -> Drawn wl nl nums D at' at1 σ σ1 ->
   (∀ (x' : Tm) σ' at2, (mkC c (l.set j x')).ok types.length m -> at2 ≤ at' + (2 * m + 3) -> Drawn wl nl nums D at' at2 σ σ' -> Q x'.enc σ') -> wpF (m + 3) .law_other [.loc wl, .loc dl, x.enc] Q σ1)
  (q : ∀ (τ' : Tm) σ' at2, τ'.ok types.length m -> at2 ≤ at' + (2 * m + 3) -> Drawn wl nl nums D at' at2 σ σ' -> Q τ'.enc σ') (ok2 : ∀ c', vc types.length c' -> (mkC c' l).ok types.length m) : wpF (m + 4) .law_other [.loc wl, .loc dl, τ.enc] Q σ := by
 rw [he, enc_mkC hl]
 refine enter3 (body := otherB) rfl ?_
 delta otherB
 refine cut_ite fun W hW => ?_
 (and_intros)
 refine hW _ _ ?_
 refine cut_ite fun W hW => ?_
 have h1 : at' + 1 ≤ at' + (2 * m + 3) := Nat.add_le_add_left (Nat.le_trans (by decide) (Nat.le_add_left 3 (2 * m))) at'
 have key := other_c (Q := Q) (W := W) hm h hD hw hl hc hb rec q ok2 fun e3 e4 e5 σ' h2 => hW _ _ (other_tail (enc_mkC hl).symm (he ▸ hok) hm (q _ _ _ Tm.ok_p7 h1 h2) (q _ _ _ Tm.ok_p13 h1 h2))
 (and_intros)
end
theorem other_spec (τ : Tm) : ∀ {m : Nat} {Q : Post} {σ : St} {wl nl dl tl cl : Nat} {nums : List Int} {at' : Nat} {D : Facts} {name : String} {types : List (String × Nat)}, m ≤ 15 ->
  Sta σ (wF wl nl nums at' ++ D) -> DD D dl tl cl name types -> WW nums -> τ.ok types.length m -> at' + (2 * m + 3) ≤ 10000 ->
  (∀ (τ' : Tm) σ' at2, τ'.ok types.length m -> at2 ≤ at' + (2 * m + 3) -> Drawn wl nl nums D at' at2 σ σ' -> Q τ'.enc σ') -> wpF (m + 4) .law_other [.loc wl, .loc dl, τ.enc] Q σ := by
  have up : ∀ {a b m : Nat}, a ≤ b + 2 -> a + (2 * m + 3) ≤ b + (2 * (m + 1) + 3) := fun h => Nat.le_trans (Nat.add_le_add_right h _) (by rw [Nat.mul_succ]; omega)
  induction τ with
  | p k => exact fun hm h _ _ hτ _ q => other_leaf hm h hτ rfl rfl rfl q
  | M => exact fun hm h _ _ hτ _ q => other_leaf hm h hτ rfl rfl rfl q
  | T i => exact fun hm h _ _ hτ _ q => other_leaf hm h hτ rfl rfl rfl q
  | c0 c => intro m _ _ _ _ _ _ _ _ _ _ _ _ hm h hD hw hτ hb q
            cases m <;> exact other_cls (l := []) hm rfl h hD hw (by decide) hτ hτ hb (fun j x _ _ _ hx => nomatch hx) q fun c' hc' => hc'
  | a x ih => intro m Q σ wl nl dl tl cl nums at' D name types hm h hD hw hτ hb q
              cases m with
              | zero => exact hτ.elim
              | succ m =>
                refine enter3 (body := otherB) rfl ?_
                delta otherB
                refine cut_ite fun W hW => ?_
                (and_intros)
                refine draw_D (m := 2) h hw (Nat.le_trans (Nat.le_add_right _ _) hb) (by decide) fun r σ1 hr h1 => ?_
                have b1 : at' + 1 ≤ at' + (2 * (m + 1) + 3) := Nat.add_le_add_left (Nat.le_add_left 1 _) at'
                rcases ltS hr with hr | rfl
                · rw [Nat.lt_one_iff.mp hr]
                  have t0 : TrW σ1 (.int ((0 : Nat) : Int)) false := .int rfl
                  refine IfW.f t0 (hW _ _ ?_)
                  refine cut_ite fun W hW => ?_
                  (and_intros)
                  exact hW _ _ (other_tail (τ := .a x) rfl hτ hm (q _ _ _ Tm.ok_p7 b1 h1) (q _ _ _ Tm.ok_p13 b1 h1))
                · have t1 : TrW σ1 (.int ((1 : Nat) : Int)) true := .int rfl
                  refine IfW.t t1 ?_
                  (and_intros)
                  exact ih (Nat.le_of_succ_le hm) h1.sta hD hw hτ (Nat.le_trans (up (Nat.le_succ _)) hb) fun τ' σ' at2 ok hat hd => q (.a τ') σ' at2 ok (Nat.le_trans hat (up (Nat.le_succ _))) (h1.trans hd)
  | c1 c x ih => intro m _ _ _ _ _ _ _ _ _ _ _ _ hm h hD hw hτ hb q
                 cases m with
                 | zero => exact hτ.elim
                 | succ m =>
                   refine other_cls (l := [x]) hm rfl h hD hw (show 1 ≤ 2 by decide) hτ.1 hτ hb (fun j z Q1 σ1 at1 hz hat hd q1 => ?_) q fun c' hc' => ⟨hc', hτ.2⟩
                   cases j with
                   | zero => cases hz; exact ih (Nat.le_of_succ_le hm) hd.sta hD hw hτ.2 (Nat.le_trans (up hat) hb) fun τ' σ' at2 ok hat2 hd2 => q1 τ' σ' at2 ⟨hτ.1, ok⟩ (Nat.le_trans hat2 (up hat)) (hd.trans hd2)
                   | succ j => exact nomatch hz
  | c2 c x y ih1 ih2 => intro m _ _ _ _ _ _ _ _ _ _ _ _ hm h hD hw hτ hb q
                        cases m with
                        | zero => exact hτ.elim
                        | succ m =>
                          refine other_cls (l := [x, y]) hm rfl h hD hw (show 2 ≤ 2 by decide) hτ.1 hτ hb (fun j z Q1 σ1 at1 hz hat hd q1 => ?_) q fun c' hc' => ⟨hc', hτ.2⟩
                          match j, hz with
                          | 0, rfl => exact ih1 (Nat.le_of_succ_le hm) hd.sta hD hw hτ.2.1 (Nat.le_trans (up hat) hb) fun τ' σ' at2 ok hat2 hd2 => q1 τ' σ' at2 ⟨hτ.1, ok, hτ.2.2⟩ (Nat.le_trans hat2 (up hat)) (hd.trans hd2)
                          | 1, rfl => exact ih2 (Nat.le_of_succ_le hm) hd.sta hD hw hτ.2.2 (Nat.le_trans (up hat) hb) fun τ' σ' at2 ok hat2 hd2 => q1 τ' σ' at2 ⟨hτ.1, hτ.2.1, ok⟩ (Nat.le_trans hat2 (up hat)) (hd.trans hd2)
theorem Upd.sublist {fs fs' gs : Facts} {σ σ' : St} (U : Upd fs fs' σ σ') (s : gs.Sublist fs') : Upd fs gs σ σ' :=
 ⟨fun p hp => U.has p (s.subset hp), (s.map Prod.fst).nodup U.nd, U.other, fun n hn => U.new n ((s.map Prod.fst).subset hn), U.len⟩
theorem Upd.add {fs fs' : Facts} {σ σ' : St} {y : Nat} {o : O} (U : Upd fs fs' σ σ') (hy : σ'[y]? = some o) (hn : y ∉ idx fs') (h0 : σ.length ≤ y) : Upd fs (fs' ++ [(y, o)]) σ σ' :=
 ⟨(U.sta.add hy hn).has, (U.sta.add hy hn).nd, U.other, fun n h => by
  rw [idx_app] at h
  rcases List.mem_append.mp h with q | q
  ·exact U.new n q
  ·exact .inr (List.mem_singleton.mp q ▸ h0), U.len⟩
theorem split_at {α : Type} : ∀ {l : List α} {t : Nat} {a : α}, l[t]? = some a -> ∃ A B, l = A ++ a :: B /\ ∀ b, l.set t b = A ++ b :: B
 | x :: l, 0, a, h => by cases h; exact ⟨[], l, rfl, fun _ => rfl⟩
 | x :: l, t + 1, a, h => (split_at (l := l) (t := t) (a := a) h).elim fun A h => h.elim fun B h => ⟨x :: A, B, by rw [h.1]; rfl, fun b => congrArg (x :: ·) (h.2 b)⟩
section
variable {wl nl dl tl cl : Nat} {nums : List Int} {at' : Nat} {D : Facts} {name : String} {types : List (String × Nat)} {code : List (Nat × List Row)} {σ : St}
noncomputable abbrev rowsF (code : List (Nat × List Row)) : Facts := code.map fun p => (p.1, O.list (p.2.map encR))
noncomputable abbrev codeL (code : List (Nat × List Row)) : O := .list (code.map fun p => V.loc p.1)
theorem shR {X : Facts} {A B : List (Nat × List Row)} {r : Nat × List Row} : X ++ (D ++ dF dl tl cl name types (A ++ r :: B)) = (X ++ (D ++ (dl, dO tl cl name) :: (tl, .list (types.map encT)) :: (cl, codeL (A ++ r :: B)) :: rowsF A)) ++ (r.1, .list (r.2.map encR)) :: rowsF B := by
 rw [List.append_assoc, List.append_assoc]
 unfold dF cF
 rw [List.map_append (f := fun p : Nat × List Row => (p.1, O.list (p.2.map encR)))]
 rfl
theorem setRows {t x : Nat} {rs rs' : List Row} (h : Sta σ (wF wl nl nums at' ++ (D ++ dF dl tl cl name types code))) (ht : code[t]? = some (x, rs)) :
  Upd (wF wl nl nums at' ++ (D ++ dF dl tl cl name types code)) (wF wl nl nums at' ++ (D ++ dF dl tl cl name types (code.set t (x, rs')))) σ (σ.set x (.list (rs'.map encR))) := by
 obtain ⟨A, B, h1, h3⟩ := split_at ht
 rw [h3]
 subst h1
 have e : (A ++ (x, rs') :: B).map (fun p => V.loc p.1) = (A ++ (x, rs) :: B).map fun p => V.loc p.1 := by rw [List.map_append, List.map_append]; rfl
 rw [shR] at h ⊢
 rw [shR]
 unfold codeL at h ⊢
 rw [e]
 exact h.setAt
theorem newRows {t x y : Nat} {rs rs' : List Row} {σ₀ : St} (G : Upd (wF wl nl nums at' ++ (D ++ dF dl tl cl name types code)) (wF wl nl nums at' ++ (D ++ dF dl tl cl name types code)) σ₀ σ) (ht : code[t]? = some (x, rs)) (hy : σ[y]? = some (.list (rs'.map encR))) (hn : y ∉ idx (wF wl nl nums at' ++ (D ++ dF dl tl cl name types code))) (h0 : σ₀.length ≤ y) :
  Upd (wF wl nl nums at' ++ (D ++ dF dl tl cl name types code)) (wF wl nl nums at' ++ (D ++ dF dl tl cl name types (code.set t (y, rs')))) σ₀ (σ.set cl (.list ((code.map fun p => V.loc p.1).set t (.loc y)))) := by
 obtain ⟨A, B, h1, h3⟩ := split_at ht
 have es : (code.map fun p => V.loc p.1).set t (V.loc y) = (A ++ (y, rs') :: B).map fun p => V.loc p.1 := by rw [<- h3, List.map_set]
 rw [h3, es]
 clear es h3 ht
 subst h1
 have U := G.add hy hn h0
 refine U.trans ?_
 have S := U.sta
 unfold dF cF at S ⊢
 rw [List.append_assoc, List.append_assoc, List.cons_append, List.cons_append, List.cons_append, sh2] at S ⊢
 have V := S.setAt (o' := codeL (A ++ (y, rs') :: B))
 rw [sh2]
 refine (V.sublist (gs := _ ++ (cl, codeL (A ++ (y, rs') :: B)) :: ((rowsF A ++ rowsF B) ++ [(y, .list (rs'.map encR))])) (List.Sublist.append_left (List.Sublist.cons_cons _ (List.Sublist.append_right ?_ _)) _)).perm (List.Perm.append_left _ (List.Perm.cons _ ?_))
 ·rw [List.map_append]; exact List.Sublist.append_left (List.sublist_cons_self _ _) _
 ·rw [List.map_append, List.append_assoc]; exact List.Perm.append_left _ List.perm_append_comm
end
theorem vc.le {n m c : Nat} (h : n ≤ m) (w : vc n c) : vc m c := w.imp_left fun z => Nat.lt_of_lt_of_le z h
theorem ok_le {n m : Nat} (h : n ≤ m) (t : Tm) : ∀ {k : Nat}, t.ok n k -> t.ok m k := by
 induction t with
 | p k => intro j hh; cases j <;> exact hh
 | M => intro j hh; cases j <;> exact hh
 | T i => intro j hh; cases j <;> exact hh
 | c0 c => intro j hh; cases j <;> exact vc.le h hh
 | a t ih => intro j hh; cases j with
  | zero => exact hh
  | succ j => exact ih (k := j) hh
 | c1 c x ih => intro j hh; cases j with
  | zero => exact hh
  | succ j => exact ⟨hh.1.le h, ih hh.2⟩
 | c2 c x y ih1 ih2 => intro j hh; cases j with
  | zero => exact hh
  | succ j => exact ⟨hh.1.le h, ih1 hh.2.1, ih2 hh.2.2⟩
theorem Rwf.le {n m : Nat} {r : Row} (h : n ≤ m) (w : Rwf n r) : Rwf m r := ⟨w.op, w.c.le h, w.al, fun τ hτ => ok_le h τ (w.ao τ hτ), w.ml, fun τ hτ => ok_le h τ (w.mo τ hτ)⟩
theorem Dwf.setR {name : String} {types : List (String × Nat)} {code : List (Nat × List Row)} {t x y : Nat} {rs rs' : List Row} (w : Dwf name types code) (ht : code[t]? = some (x, rs)) (hl : rs'.length = rs.length) (hr : ∀ r ∈ rs', Rwf types.length r) : Dwf name types (code.set t (y, rs')) where
 nm := w.nm
 tl := w.tl
 tc := w.tc
 cl := List.length_set.trans w.cl
 rl := fun p hp => (List.mem_or_eq_of_mem_set hp).elim (w.rl p) fun q => q ▸ ⟨hl ▸ (w.rl _ (List.mem_of_getElem? ht)).1, hr⟩
 c0 := fun p hp => by
  rw [List.getElem?_set] at hp
  by_cases e : t = 0
  ·subst e
   rw [if_pos rfl, if_pos (List.getElem?_eq_some_iff.mp ht).1] at hp
   exact fun z => w.c0 _ ht (List.length_eq_zero_iff.mp (by rw [<- hl, show rs' = p.2 from congrArg (·.2) (Option.some.inj hp), z]; rfl))
  ·rw [if_neg e] at hp; exact w.c0 p hp
theorem mem_dF {X : Facts} {dl tl cl : Nat} {D : Facts} {name : String} {types : List (String × Nat)} {code : List (Nat × List Row)} {t x : Nat} {rs : List Row} (ht : code[t]? = some (x, rs)) : (x, O.list (rs.map encR)) ∈ X ++ (D ++ dF dl tl cl name types code) :=
 inD (.tail _ (.tail _ (.tail _ (List.mem_map.mpr ⟨(x, rs), List.mem_of_getElem? ht, rfl⟩))))
theorem Dwf.dd {D : Facts} {dl tl cl : Nat} {name : String} {types : List (String × Nat)} {code : List (Nat × List Row)} (w : Dwf name types code) : DD (D ++ dF dl tl cl name types code) dl tl cl name types := dF_DD (Nat.le_trans w.tl.2 (by decide)) fun t ht => (w.tc t ht).1
theorem row_at {rs : List Row} {i : Nat} (hi : i < rs.length) : (rs.map encR)[i]? = some (.tup [.int rs[i].op, rs[i].owner.enc, .tup (rs[i].margs.map Tm.enc)]) := by rw [List.getElem?_map, List.getElem?_eq_getElem hi]; rfl
theorem ml_le {n : Nat} {r : Row} (w : Rwf n r) : r.margs.length ≤ 2 := w.ml.elim (fun h => Nat.le_trans (Nat.le_of_eq h) (by decide)) fun h => Nat.le_of_eq h
theorem ml_pos {n : Nat} {r : Row} (w : Rwf n r) : 0 < r.margs.length := w.ml.elim (fun h => Nat.lt_of_lt_of_eq (by decide) h.symm) fun h => Nat.lt_of_lt_of_eq (by decide) h.symm
theorem margs_spec {N : Nat} {Q : Post} {σ : St} {wl nl dl tl cl : Nat} {nums : List Int} {at' : Nat} {D : Facts} {name : String} {types : List (String × Nat)} {code : List (Nat × List Row)} {t x i : Nat} {rs : List Row}
  (h : Sta σ (wF wl nl nums at' ++ (D ++ dF dl tl cl name types code))) (w : Dwf name types code) (hw : WW nums) (ht : code[t]? = some (x, rs)) (hi : i < rs.length) (hb : at' + 10 ≤ 10000)
  (q : ∀ r σ' at2, Rwf types.length r -> at2 ≤ at' + 10 -> Upd (wF wl nl nums at' ++ (D ++ dF dl tl cl name types code)) (wF wl nl nums at2 ++ (D ++ dF dl tl cl name types (code.set t (x, rs.set i r)))) σ σ' -> Q .none σ') : wpF (N + 8) .law_margs [.loc wl, .loc dl, .loc x, .int i] Q σ := by
 have hrw := (w.rl _ (List.mem_of_getElem? ht)).2 _ (List.getElem_mem hi)
 have gx : ∀ {at' σ}, Sta σ (wF wl nl nums at' ++ (D ++ dF dl tl cl name types code)) -> σ[x]? = some (.list (rs.map encR)) := fun h => h.has.get (mem_dF ht)
 have g1 := gx h
 have e1 := row_at hi
 refine enter4 rfl ?_
 delta body_law_margs
 (and_intros)
 have hlm : (rs[i].margs.map Tm.enc).length = rs[i].margs.length := List.length_map _
 rw [hlm]
 refine draw_D h hw (Nat.le_trans (Nat.le_add_right _ _) hb) (ml_pos hrw) fun j σ1 hj h1 => ?_
 have e2 : (rs[i].margs.map Tm.enc)[j]? = some rs[i].margs[j].enc := by rw [List.getElem?_map, List.getElem?_eq_getElem hj]; rfl
 have l2 : ∀ x, Nat.ble (List.take j (rs[i].margs.map Tm.enc) ++ [x]).length lim = true := fun x => lim_of (by rw [List.length_append]; exact Nat.le_trans (Nat.add_le_add_right (Nat.le_trans (List.length_take_le' _ _) (Nat.le_trans (Nat.le_of_eq hlm) (ml_le hrw))) 1) (show 3 ≤ 100000 by decide))
 (and_intros)
 refine wpF_le (n := 6) (Nat.le_add_left 6 (N + 1)) (other_spec _ (m := 2) (by decide) h1.sta w.dd hw (hrw.mo _ (List.getElem_mem hj)) (Nat.le_trans (Nat.le_of_eq (Nat.add_assoc at' 1 _)) (Nat.le_trans (Nat.add_le_add_left (by decide) at') hb)) fun y' σ2 at2 ok hat h2 => ?_)
 have l3 := l2 y'.enc
 have ee : List.take j (rs[i].margs.map Tm.enc) ++ [y'.enc] ++ List.drop (j + 1) (rs[i].margs.map Tm.enc) = (rs[i].margs.set j y').map Tm.enc := by
  rw [List.map_set, List.set_eq_take_append_cons_drop, if_pos (hlm.symm ▸ hj), List.append_assoc]; rfl
 have l5 : Nat.ble (List.take j (rs[i].margs.map Tm.enc) ++ [y'.enc] ++ List.drop (j + 1) (rs[i].margs.map Tm.enc)).length lim = true := by rw [ee, List.length_map, List.length_set]; exact lim_of (Nat.le_trans (ml_le hrw) (by decide))
 have g2 := gx h2.sta
 have l6 : Nat.blt i (rs.map encR).length = true := by rw [List.length_map]; exact Nat.ble_eq_true_of_le hi
 (and_intros)
 rw [ee]
 have U := setRows (rs' := rs.set i ⟨rs[i].op, rs[i].c, rs[i].args, rs[i].margs.set j y'⟩) h2.sta ht
 rw [List.map_set] at U
 exact q ⟨rs[i].op, rs[i].c, rs[i].args, rs[i].margs.set j y'⟩ _ at2 ⟨hrw.op, hrw.c, hrw.al, hrw.ao, (List.length_set (as := rs[i].margs) (i := j) (a := y')).symm ▸ hrw.ml, fun τ hτ => (List.mem_or_eq_of_mem_set hτ).elim (hrw.mo τ) fun z => z ▸ ok⟩ (Nat.le_trans hat (Nat.le_trans (Nat.le_of_eq (Nat.add_assoc at' 1 _)) (Nat.add_le_add_left (by decide) at'))) (Upd.trans (Upd.trans h1 h2) U)
noncomputable def callTail : S :=
 (.ite (.cmp .Eq (.lv 2) (.const (.int 1)))
 (.expr (.call (.gv (.fn .law_margs) "_law_margs") (.cons (.lv 0) (.cons (.lv 1) (.cons (.lv 3) (.cons (.lv 4) .nil)))))
 .nil)
 .nil
 (.ite (.cmp .Eq (.lv 2) (.const (.int 2)))
 (.setI (.lv 3) (.lv 4) (.tup (.cons (.lv 5) (.cons (.lv 6) (.cons (.rev (.lv 7)) .nil))))
 .nil)
 .nil
 (.ite (.boo true (.cons (.cmp .Eq (.lv 2) (.const (.int 3))) (.cons (.cmp .Gt (.call (.gv (.bi .len) "len") (.cons (.idx (.lv 6) (.const (.int 2))) .nil)) (.const (.int 0))) .nil)))
 (.setI (.lv 3) (.lv 4) (.tup (.cons (.lv 5) (.cons (.tup (.cons (.const (.str "c")) (.cons (.idx (.lv 6) (.const (.int 1))) (.cons (.bin .Add (.upto (.lv 7) (.const (.int 1))) (.from' (.idx (.lv 6) (.const (.int 2))) (.const (.int 1)))) .nil)))) (.cons (.bin .Add (.upto (.idx (.lv 6) (.const (.int 2))) (.const (.int 1))) (.from' (.lv 7) (.const (.int 1)))) .nil))))
 .nil)
 .nil
 (.ite (.cmp .Eq (.lv 2) (.const (.int 4)))
 (.set 8 (.call (.gv (.fn .law_elsewhere) "_law_elsewhere") (.cons (.lv 0) (.cons (.lv 1) (.cons (.lv 6) .nil))))
 (.setI (.lv 3) (.lv 4) (.tup (.cons (.lv 5) (.cons (.ife (.cmp .Eq (.idx (.lv 8) (.const (.int 0))) (.const (.str "c"))) (.lv 8) (.lv 6)) (.cons (.lv 7) .nil))))
 .nil))
 .nil
 (.ite (.cmp .Eq (.lv 2) (.const (.int 5)))
 (.setI (.lv 3) (.lv 4) (.tup (.cons (.bin .Mod (.bin .Add (.lv 5) (.const (.int 1))) (.const (.int 3))) (.cons (.lv 6) (.cons (.lv 7) .nil))))
 .nil)
 .nil
 (.ite (.cmp .Eq (.lv 2) (.const (.int 6)))
 (.setI (.idx (.lv 1) (.const (.str "code"))) (.const (.int 0)) (.rev (.idx (.idx (.lv 1) (.const (.str "code"))) (.const (.int 0))))
 .nil)
 .nil
 .nil))))))
noncomputable def callMid : S := (.set 4 (.call (.gv (.fn .law_draw) "_law_draw") (.cons (.lv 0) (.cons (.call (.gv (.bi .len) "len") (.cons (.lv 3) .nil)) .nil)))
 (.setT [5, 6, 7] (.idx (.lv 3) (.lv 4)) callTail))
noncomputable def callB : S := (.set 3 (.idx (.idx (.lv 1) (.const (.str "code"))) (.call (.gv (.fn .law_draw) "_law_draw") (.cons (.lv 0) (.cons (.call (.gv (.bi .len) "len") (.cons (.idx (.lv 1) (.const (.str "code"))) .nil)) .nil))))
 (.ite (.cmp .Eq (.call (.gv (.bi .len) "len") (.cons (.lv 3) .nil)) (.const (.int 0)))
 (.set 3 (.idx (.idx (.lv 1) (.const (.str "code"))) (.const (.int 0)))
 .nil)
 .nil callMid))
section
variable {Q : Post} {σ : St} {wl nl dl tl cl : Nat} {nums : List Int} {at' : Nat} {D : Facts} {name : String} {types : List (String × Nat)} {code : List (Nat × List Row)}
theorem code_len4 (w : Dwf name types code) : code.length ≤ 4 := w.cl ▸ w.tl.2
theorem code_pos (w : Dwf name types code) : 0 < code.length := w.cl ▸ w.tl.1
theorem code_at {t : Nat} (ht : t < code.length) : (code.map fun p => V.loc p.1)[t]? = some (.loc code[t].1) := by rw [List.getElem?_map, List.getElem?_eq_getElem ht]; rfl
theorem g_dl {X : Facts} {σ : St} (h : Sta σ (X ++ (D ++ dF dl tl cl name types code))) : σ[dl]? = some (dO tl cl name) := h.has.get (inD (.head _))
theorem g_cl {X : Facts} {σ : St} (h : Sta σ (X ++ (D ++ dF dl tl cl name types code))) : σ[cl]? = some (.list (code.map fun p => V.loc p.1)) := h.has.get (inD (.tail _ (.tail _ (.head _))))
theorem bool6 {n : Nat} (h : 1 ≤ n /\ n ≤ 6) : n = 1 ∨ n = 2 ∨ n = 3 ∨ n = 4 ∨ n = 5 ∨ n = 6 := by
 rcases lt8 (Nat.lt_succ_of_le (Nat.le_succ_of_le h.2)) with (rfl | h | h | h | h) | h | h | rfl
 ·exact absurd h.1 (by decide)
 ·exact .inl h
 ·exact .inr (.inl h)
 ·exact .inr (.inr (.inl h))
 ·exact .inr (.inr (.inr (.inl h)))
 ·exact .inr (.inr (.inr (.inr (.inl h))))
 ·exact .inr (.inr (.inr (.inr (.inr h))))
 ·exact absurd h.2 (by decide)
theorem callTail_spec {N : Nat} {R : Post} {Nn : Nt} {t x i : Nat} {rs : List Row} {way : Nat}
  (h : Sta σ (wF wl nl nums at' ++ (D ++ dF dl tl cl name types code))) (w : Dwf name types code) (hw : WW nums) (ht : code[t]? = some (x, rs)) (hi : i < rs.length) (hb : at' + 10 ≤ 10000) (hway : 1 ≤ way /\ way ≤ 6)
  (q : ∀ ρ code' σ' at2, Dwf name types code' -> at2 ≤ at' + 10 -> Upd (wF wl nl nums at' ++ (D ++ dF dl tl cl name types code)) (wF wl nl nums at2 ++ (D ++ dF dl tl cl name types code')) σ σ' -> Nn ρ σ') :
  wpS (wpF (N + 8)) R callTail Nn [some (.loc wl), some (.loc dl), some (.int way), some (.loc x), some (.int i), some (.int rs[i].op), some rs[i].owner.enc, some (.tup (rs[i].margs.map Tm.enc)), none] σ := by
 have hrl := (w.rl _ (List.mem_of_getElem? ht)).2
 have hrw := hrl _ (List.getElem_mem hi)
 have gx : ∀ {at' σ}, Sta σ (wF wl nl nums at' ++ (D ++ dF dl tl cl name types code)) -> σ[x]? = some (.list (rs.map encR)) := fun h => h.has.get (mem_dF ht)
 have l6 : Nat.blt i (rs.map encR).length = true := by rw [List.length_map]; exact Nat.ble_eq_true_of_le hi
 have fin : ∀ (r' : Row) (v : V) (σ1 : St) at2, v = encR r' -> Rwf types.length r' -> at2 ≤ at' + 10 -> Upd (wF wl nl nums at' ++ (D ++ dF dl tl cl name types code)) (wF wl nl nums at2 ++ (D ++ dF dl tl cl name types code)) σ σ1 -> ∀ ρ, Nn ρ (σ1.set x (.list ((rs.map encR).set i v))) := fun r' v σ1 at2 e hr' hat U ρ => by
  have U2 := setRows (rs' := rs.set i r') U.sta ht
  rw [List.map_set, <- e] at U2
  exact q ρ _ _ at2 (w.setR ht List.length_set fun z hz => (List.mem_or_eq_of_mem_set hz).elim (hrl z) fun z => z ▸ hr') hat (U.trans U2)
 have U0 := h.refl
 have b0 : at' ≤ at' + 10 := Nat.le_add_right _ _
 have g0 := gx h
 generalize rs[i] = r at hrw ⊢
 rcases bool6 hway with rfl | rfl | rfl | rfl | rfl | rfl
 ·delta callTail
  (and_intros)
  refine wpF_le (n := 8) (Nat.le_add_left 8 N) (margs_spec (N := 0) h w hw ht hi hb fun r' σ' at2 hr' hat U => ?_)
  (and_intros)
  exact q _ _ _ at2 (w.setR ht List.length_set fun z hz => (List.mem_or_eq_of_mem_set hz).elim (hrl z) fun z => z ▸ hr') hat U
 ·delta callTail
  (and_intros)
  exact fin ⟨r.op, r.c, r.args, r.margs.reverse⟩ _ σ at' (by unfold encR; rw [List.map_reverse]; rfl) ⟨hrw.op, hrw.c, hrw.al, hrw.ao, by rw [List.length_reverse]; exact hrw.ml, fun τ hτ => hrw.mo τ (List.mem_reverse.mp hτ)⟩ b0 U0 _
 ·obtain ⟨op, c, args, margs⟩ := r
  rw [show (Row.owner ⟨op, c, args, margs⟩).enc = _ from enc_mkC hrw.al]
  delta callTail
  cases args with
  | nil =>
   (and_intros)
   exact q _ code σ at' w b0 U0
  | cons y ys => cases margs with
   | nil => exact absurd (show 0 < 0 from ml_pos hrw) (by decide)
   | cons z zs =>
    have la := hrw.al
    have lm := ml_le hrw
    have l1 : Nat.ble (List.take 1 (List.map Tm.enc (z :: zs)) ++ List.drop 1 (List.map Tm.enc (y :: ys))).length lim = true := lim_of (by show (z.enc :: ys.map Tm.enc).length ≤ _; rw [List.length_cons, List.length_map]; exact Nat.le_trans la (by decide))
    have l2 : Nat.ble (List.take 1 (List.map Tm.enc (y :: ys)) ++ List.drop 1 (List.map Tm.enc (z :: zs))).length lim = true := lim_of (by show (y.enc :: zs.map Tm.enc).length ≤ _; rw [List.length_cons, List.length_map]; exact Nat.le_trans lm (by decide))
    have z0 : (0 : Int) < ((List.map Tm.enc (y :: ys)).length : Nat) := Int.natCast_pos.mpr (Nat.succ_pos _)
    (and_intros)
    exact fin ⟨op, c, z :: ys, y :: zs⟩ _ σ at' (by show _ = V.tup [_, (mkC c (z :: ys)).enc, _]; rw [enc_mkC (l := z :: ys) la]; rfl) ⟨hrw.op, hrw.c, la, fun τ hτ => by
     rcases List.mem_cons.mp hτ with e | e
     ·rw [e]; exact hrw.mo z (.head _)
     ·exact hrw.ao τ (.tail _ e), hrw.ml, fun τ hτ => by
     rcases List.mem_cons.mp hτ with e | e
     ·rw [e]; exact hrw.ao y (.head _)
     ·exact hrw.mo τ (.tail _ e)⟩ b0 U0 _
 ·rw [show r.owner.enc = _ from enc_mkC hrw.al]
  delta callTail
  (and_intros)
  refine wpF_le (n := 2) (Nat.le_add_left 2 (N + 6)) (elsewhere_spec (N := 0) h w.dd hw (Nat.le_trans (Nat.add_le_add_left (by decide) at') hb) hrw.al hrw.c fun τ σ1 at2 hτ hat hd => ?_)
  have b1 : at2 ≤ at' + 10 := Nat.le_trans hat (Nat.add_le_add_left (by decide) at')
  have g1 := gx hd.sta
  rcases hτ with rfl | ⟨c', hc', rfl⟩
  ·(and_intros)
   exact fin r _ σ1 at2 (by show _ = V.tup [_, (mkC r.c r.args).enc, _]; rw [enc_mkC hrw.al]) hrw b1 hd _
  ·rw [enc_mkC hrw.al]
   (and_intros)
   exact fin ⟨r.op, c', r.args, r.margs⟩ _ σ1 at2 (by show _ = V.tup [_, (mkC c' r.args).enc, _]; rw [enc_mkC hrw.al]) ⟨hrw.op, hc', hrw.al, hrw.ao, hrw.ml, hrw.mo⟩ b1 hd _
 ·delta callTail
  (and_intros)
  exact fin ⟨(r.op + 1) % 3, r.c, r.args, r.margs⟩ _ σ at' rfl ⟨Nat.mod_lt _ (by decide), hrw.c, hrw.al, hrw.ao, hrw.ml, hrw.mo⟩ b0 U0 _
 ·have hc0 := code_pos w
  have h0 : code[0]? = some (code[0].1, code[0].2) := List.getElem?_eq_getElem hc0
  have g1 := g_dl h
  have g2 := g_cl h
  have g3 : σ[code[0].1]? = some (.list (code[0].2.map encR)) := h.has.get (mem_dF h0)
  have e4 := code_at hc0
  have l7 : Nat.blt 0 (code.map fun p => V.loc p.1).length = true := by rw [List.length_map]; exact Nat.ble_eq_true_of_le hc0
  delta callTail
  (and_intros)
  have G := h.grow [O.list (code[0].2.reverse.map encR)]
  have U := newRows (y := σ.length) (rs' := code[0].2.reverse) (σ := σ ++ [O.list (code[0].2.reverse.map encR)]) G h0 lk_new (fun z => Nat.lt_irrefl _ (h.has.lt z)) (Nat.le_refl _)
  rw [List.map_reverse] at U
  exact q _ _ _ at' (w.setR h0 List.length_reverse fun z hz => (w.rl _ (List.mem_of_getElem? h0)).2 z (List.mem_reverse.mp hz)) b0 U
end
section
variable {Q : Post} {σ : St} {wl nl dl tl cl : Nat} {nums : List Int} {at' : Nat} {D : Facts} {name : String} {types : List (String × Nat)} {code : List (Nat × List Row)}
theorem callMid_spec {N : Nat} {R : Post} {Nn : Nt} {t x : Nat} {rs : List Row} {way : Nat}
  (h : Sta σ (wF wl nl nums at' ++ (D ++ dF dl tl cl name types code))) (w : Dwf name types code) (hw : WW nums) (ht : code[t]? = some (x, rs)) (hrs : rs ≠ []) (hb : at' + 11 ≤ 10000) (hway : 1 ≤ way /\ way ≤ 6)
  (q : ∀ ρ code' σ' at2, Dwf name types code' -> at2 ≤ at' + 11 -> Upd (wF wl nl nums at' ++ (D ++ dF dl tl cl name types code)) (wF wl nl nums at2 ++ (D ++ dF dl tl cl name types code')) σ σ' -> Nn ρ σ') :
  wpS (wpF (N + 8)) R callMid Nn [some (.loc wl), some (.loc dl), some (.int way), some (.loc x), none, none, none, none, none] σ := by
 have gx : ∀ {at' σ}, Sta σ (wF wl nl nums at' ++ (D ++ dF dl tl cl name types code)) -> σ[x]? = some (.list (rs.map encR)) := fun h => h.has.get (mem_dF ht)
 have g1 := gx h
 delta callMid
 refine cut_set fun W hW => ?_
 (and_intros)
 rw [List.length_map]
 refine draw_D h hw (Nat.le_trans (Nat.le_add_right _ _) hb) (List.length_pos_iff.mpr hrs) fun i σ1 hi h1 => ?_
 have g2 := gx h1.sta
 have e1 := row_at hi
 have key := callTail_spec (N := N) (R := R) (Nn := Nn) h1.sta w hw ht hi (bd (j := 1) hb (Nat.le_refl _) rfl) hway fun ρ code' σ' at2 w' hat U => q ρ code' σ' at2 w' (bl (i := 1) (Nat.le_refl _) hat rfl) (Upd.trans h1 U)
 (and_intros)
 refine hW _ _ (cut_setT fun W2 hW2 => ?_)
 (and_intros)
 exact hW2 _ _ key
theorem call_spec {N : Nat} {way : Nat}
  (h : Sta σ (wF wl nl nums at' ++ (D ++ dF dl tl cl name types code))) (w : Dwf name types code) (hw : WW nums) (hb : at' + 12 ≤ 10000) (hway : 1 ≤ way /\ way ≤ 6)
  (q : ∀ code' σ' at2, Dwf name types code' -> at2 ≤ at' + 12 -> Upd (wF wl nl nums at' ++ (D ++ dF dl tl cl name types code)) (wF wl nl nums at2 ++ (D ++ dF dl tl cl name types code')) σ σ' -> Q .none σ') :
  wpF (N + 9) .law_call [.loc wl, .loc dl, .int way] Q σ := by
 have hc1 := code_pos w
 have g1 := g_dl h
 have g2 := g_cl h
 refine enter3 (body := callB) rfl ?_
 delta callB
 refine cut_set fun W hW => ?_
 (and_intros)
 rw [List.length_map]
 refine draw_D h hw (Nat.le_trans (Nat.le_add_right _ _) hb) hc1 fun t σ1 ht h1 => ?_
 have e1 := code_at ht
 have hx : code[t]? = some (code[t].1, code[t].2) := List.getElem?_eq_getElem ht
 have gx : σ1[code[t].1]? = some (.list (code[t].2.map encR)) := h1.has.get (mem_dF hx)
 have g3 := g_dl h1.sta
 have g4 := g_cl h1.sta
 have mid : ∀ {t x : Nat} {rs : List Row}, code[t]? = some (x, rs) -> rs ≠ [] -> wpS (wpF (N + 8)) Q callMid (fun _ σ' => Q .none σ') [some (.loc wl), some (.loc dl), some (.int way), some (.loc x), none, none, none, none, none] σ1 := fun hx hn =>
  callMid_spec h1.sta w hw hx hn (bd (j := 1) hb (Nat.le_refl _) rfl) hway fun ρ code' σ' at2 w' hat U => q code' σ' at2 w' (bl (i := 1) (Nat.le_refl _) hat rfl) (Upd.trans h1 U)
 by_cases h0 : (((code[t].2.map encR).length : Nat) : Int) = 0
 ·have h0' : code[0]? = some (code[0].1, code[0].2) := List.getElem?_eq_getElem hc1
  have e2 := code_at hc1
  have key := mid h0' (w.c0 _ h0')
  (and_intros)
  refine hW _ _ (cut_ite fun W2 hW2 => ?_)
  (and_intros)
  exact hW2 _ _ key
 ·have key := mid hx fun z => h0 (by rw [z]; rfl)
  (and_intros)
  refine hW _ _ (cut_ite fun W2 hW2 => ?_)
  (and_intros)
  exact hW2 _ _ key
theorem setName {name' : String} (h : Sta σ (wF wl nl nums at' ++ (D ++ dF dl tl cl name types code))) :
  Upd (wF wl nl nums at' ++ (D ++ dF dl tl cl name types code)) (wF wl nl nums at' ++ (D ++ dF dl tl cl name' types code)) σ (σ.set dl (dO tl cl name')) := by
 unfold dF at h ⊢
 rw [<- List.append_assoc] at h ⊢
 rw [<- List.append_assoc]
 exact h.setAt
theorem setTypes {types' : List (String × Nat)} (h : Sta σ (wF wl nl nums at' ++ (D ++ dF dl tl cl name types code))) :
  Upd (wF wl nl nums at' ++ (D ++ dF dl tl cl name types code)) (wF wl nl nums at' ++ (D ++ dF dl tl cl name types' code)) σ (σ.set tl (.list (types'.map encT))) := by
 unfold dF at h ⊢
 rw [sh1] at h ⊢
 rw [sh1]
 exact h.setAt
theorem g_tl {X : Facts} {σ : St} (h : Sta σ (X ++ (D ++ dF dl tl cl name types code))) : σ[tl]? = some (.list (types.map encT)) := h.has.get (inD (.tail _ (.head _)))
theorem str_f {a b : String} (h : ¬ a = b) : (a == b) = false := beq_eq_false_iff_ne.mpr h
theorem lt10 {n : Nat} (h : n < 10) : n = 0 ∨ (1 ≤ n /\ n ≤ 6) ∨ n = 7 ∨ n = 8 ∨ n = 9 := by
 rcases Nat.eq_zero_or_pos n with h0 | h0
 ·exact .inl h0
 ·exact .inr ((ltS h).elim (fun h => (ltS h).elim (fun h => (ltS h).elim (fun h => .inl ⟨h0, Nat.le_of_lt_succ h⟩) fun h => .inr (.inl h)) fun h => .inr (.inr (.inl h))) fun h => .inr (.inr (.inr h)))
theorem ab_at {r : Nat} (h : r < 2) : ∃ s, (s = "A" ∨ s = "B") /\ strAt "AB" r = some s := by
 rcases ltS h with h | rfl
 ·rw [Nat.lt_one_iff.mp h]; exact ⟨"A", .inl rfl, by decide⟩
 ·exact ⟨"B", .inr rfl, by decide⟩
theorem turn_spec {N : Nat} {way : Nat}
  (h : Sta σ (wF wl nl nums at' ++ (D ++ dF dl tl cl name types code))) (w : Dwf name types code) (hw : WW nums) (hb : at' + 12 ≤ 10000) (hway : way < 10) (h3 : types.length ≤ 3)
  (q : ∀ name' types' code' σ' at2, Dwf name' types' code' -> at2 ≤ at' + 12 -> Upd (wF wl nl nums at' ++ (D ++ dF dl tl cl name types code)) (wF wl nl nums at2 ++ (D ++ dF dl tl cl name' types' code')) σ σ' -> Q .none σ') :
  wpF (N + 10) .law_turn [.loc wl, .loc dl, .int way] Q σ := by
 have g1 := g_dl h
 have g2 := g_tl h
 have b0 : at' ≤ at' + 12 := Nat.le_add_right _ _
 have b1 : at' + 1 ≤ at' + 12 := Nat.add_le_add_left (by decide) at'
 have hb0 := Nat.le_trans b0 hb
 rcases lt10 hway with rfl | h16 | rfl | rfl | rfl
 ·refine enter3 rfl ?_
  delta body_law_turn
  (and_intros)
  exact q name types code σ at' w b0 h.refl
 ·have y7 : ¬ (way : Int) = 7 := fun e => absurd (Int.ofNat.inj e ▸ h16.2) (by decide)
  have y8 : ¬ (way : Int) = 8 := fun e => absurd (Int.ofNat.inj e ▸ h16.2) (by decide)
  have y9 : ¬ (way : Int) = 9 := fun e => absurd (Int.ofNat.inj e ▸ h16.2) (by decide)
  have y0 : (0 : Int) < (way : Int) := Int.natCast_pos.mpr h16.1
  refine enter3 rfl ?_
  delta body_law_turn
  (and_intros)
  refine call_spec h w hw hb h16 fun code' σ' at2 w' hat U => ?_
  (and_intros)
  exact q name types code' σ' at2 w' hat U
 ·by_cases hn : name = "app"
  ·subst hn
   refine enter3 rfl ?_
   delta body_law_turn
   (and_intros)
   exact q "apq" types code _ at' ⟨.inr (.inl rfl), w.tl, w.tc, w.cl, w.rl, w.c0⟩ b0 (setName h)
  ·have hn' := str_f hn
   refine enter3 rfl ?_
   delta body_law_turn
   (and_intros)
   exact q "app" types code _ at' ⟨.inl rfl, w.tl, w.tc, w.cl, w.rl, w.c0⟩ b0 (setName h)
 ·refine enter3 rfl ?_
  delta body_law_turn
  (and_intros)
  rw [List.length_map]
  refine draw_D h hw hb0 w.tl.1 fun t σ1 ht h1 => ?_
  have e1 := ty_at ht
  have hsc := w.tc _ (List.getElem_mem ht)
  have g3 := g_dl h1.sta
  have g4 := g_tl h1.sta
  have l6 : Nat.blt t (types.map encT).length = true := by rw [List.length_map]; exact Nat.ble_eq_true_of_le ht
  have fin : ∀ s', s' = "A" ∨ s' = "B" -> Q .none (σ1.set tl (.list ((types.map encT).set t (.tup [.str s', .int types[t].2])))) := fun s' hs => by
   have U := setTypes (types' := types.set t (s', types[t].2)) h1.sta
   rw [List.map_set] at U
   exact q name (types.set t (s', types[t].2)) code _ (at' + 1) ⟨w.nm, by rw [List.length_set]; exact w.tl, fun z hz => (List.mem_or_eq_of_mem_set hz).elim (w.tc z) fun e => by rw [e]; exact ⟨hsc.1, hs⟩, by rw [List.length_set]; exact w.cl, by rw [List.length_set]; exact w.rl, w.c0⟩ b1 (Upd.trans h1 U)
  generalize types[t] = ty at e1 fin ⊢
  by_cases hn : ty.1 = "A"
  ·have hn' : (ty.1 == "A") = true := beq_iff_eq.mpr hn
   (and_intros)
   exact fin "B" (.inr rfl)
  ·have hn' := str_f hn
   (and_intros)
   exact fin "A" (.inl rfl)
 ·refine enter3 rfl ?_
  delta body_law_turn
  (and_intros)
  refine draw_D (m := 2) h hw hb0 (by decide) fun r σ1 hr h1 => ?_
  obtain ⟨s, hs, hst⟩ := ab_at hr
  have r1 : Nat.ble r 1000000 = true := Nat.ble_eq_true_of_le (Nat.le_trans (Nat.le_of_lt hr) (by decide))
  have g4 := g_tl h1.sta
  have l1 : Nat.blt (types.map encT).length lim = true := by rw [List.length_map]; exact lim_of (Nat.le_trans (Nat.succ_le_succ h3) (by decide))
  have l2 : Nat.blt (code.map fun p : Nat × List Row => V.loc p.1).length lim = true := by rw [List.length_map]; exact lim_of (Nat.le_trans (Nat.succ_le_succ (code_len4 w)) (by decide))
  have U := addType (ty := (s, 0)) h1.sta
  have g5 : (σ1.set tl (.list (types.map encT ++ [.tup [.str s, .int 0]])))[dl]? = some (dO tl cl name) := g_dl U.sta
  have g6 : (σ1.set tl (.list (types.map encT ++ [.tup [.str s, .int 0]])))[cl]? = some (.list (code.map fun p => V.loc p.1)) := g_cl U.sta
  (and_intros)
  refine q name (types ++ [(s, 0)]) _ _ (at' + 1) ⟨w.nm, ⟨by rw [List.length_append]; exact Nat.le_add_left 1 _, by rw [List.length_append]; exact Nat.add_le_add_right h3 1⟩, all_snoc w.tc ⟨Nat.zero_le _, hs⟩, by rw [List.length_append, List.length_append, w.cl]; rfl, all_snoc (fun z hz => ⟨(w.rl z hz).1, fun r hr => ((w.rl z hz).2 r hr).le (by rw [List.length_append]; exact Nat.le_add_right _ _)⟩) ⟨Nat.zero_le _, fun r hr => (List.not_mem_nil hr).elim⟩, c0_snoc w.c0 rfl fun e => absurd e (Nat.pos_iff_ne_zero.mp (code_pos w))⟩ b1 ((Upd.trans h1 U).trans (addCode (rs := []) U.sta))
end
theorem Upd.pushU {fs fs' : Facts} {σ σ' : St} (U : Upd fs fs' σ σ') (o : O) : Upd fs (fs' ++ [(σ'.length, o)]) σ (σ' ++ [o]) := U.trans U.sta.pushR
section
variable {Q : Post} {σ : St} {wl nl dl tl cl : Nat} {nums : List Int} {at' : Nat} {D : Facts} {name : String} {types : List (String × Nat)} {code : List (Nat × List Row)}
theorem Dwf.copy {code' : List (Nat × List Row)} (w : Dwf name types code) (e1 : code'.map (·.2) = code.map (·.2)) : Dwf name types code' := by
 have hl : code'.length = code.length := by rw [<- List.length_map (f := fun p : Nat × List Row => p.2), e1, List.length_map]
 have hm : ∀ p ∈ code', ∃ p' ∈ code, p'.2 = p.2 := fun p hp => List.mem_map.mp (e1 ▸ List.mem_map.mpr ⟨p, hp, rfl⟩)
 refine ⟨w.nm, w.tl, w.tc, hl.trans w.cl, fun p hp => (hm p hp).elim fun p' h => h.2 ▸ w.rl p' h.1, fun p hp => ?_⟩
 have h0 : (code'.map (·.2))[0]? = some p.2 := by rw [List.getElem?_map, hp]; rfl
 rw [e1, List.getElem?_map, List.getElem?_eq_getElem (code_pos w)] at h0
 exact Option.some.inj h0 ▸ w.c0 _ (List.getElem?_eq_getElem (code_pos w))
theorem changed_spec {N : Nat} {way : Nat}
  (h : Sta σ (wF wl nl nums at' ++ D)) (hsub : ∀ p ∈ dF dl tl cl name types code, p ∈ D) (w : Dwf name types code) (hw : WW nums) (hb : at' + 12 ≤ 10000) (hway : way < 10) (h3 : types.length ≤ 3)
  (q : ∀ dl' tl' cl' name' types' code' σ' at2, Dwf name' types' code' -> at2 ≤ at' + 12 -> Upd (wF wl nl nums at' ++ D) (wF wl nl nums at2 ++ (D ++ dF dl' tl' cl' name' types' code')) σ σ' -> Q (.loc dl') σ') :
  wpF (N + 11) .law_changed [.loc wl, .loc dl, .int way] Q σ := by
 have get : ∀ {fs : Facts} {σ : St} {n : Nat} {o : O}, Sta σ (wF wl nl nums at' ++ D ++ fs) -> (n, o) ∈ dF dl tl cl name types code -> σ[n]? = some o := fun s m => s.has.get (List.mem_append_left _ (List.mem_append_right _ (hsub _ m)))
 have md : (dl, dO tl cl name) ∈ dF dl tl cl name types code := .head _
 have mt : (tl, O.list (types.map encT)) ∈ dF dl tl cl name types code := .tail _ (.head _)
 have mc : (cl, codeL code) ∈ dF dl tl cl name types code := .tail _ (.tail _ (.head _))
 have h' : Sta σ (wF wl nl nums at' ++ D ++ []) := by rw [List.append_nil]; exact h
 have U1 := h.pushR (o := O.list (types.map encT))
 have g1 := get h' md
 have g2 := get h' mt
 have g3 := get U1.sta md
 have g4 := get U1.sta mc
 have l1 : Nat.ble (code.map fun p : Nat × List Row => V.loc p.1).length lim = true := by rw [List.length_map]; exact lim_of (Nat.le_trans (code_len4 w) (by decide))
 refine enter3 rfl ?_
 delta body_law_changed
 refine cut_set fun W hW => ?_
 (and_intros)
 refine comp_rule (fun acc σ' => ∃ code' : List (Nat × List Row), acc = code'.map (fun p => V.loc p.1) /\ code'.map (·.2) = (code.take acc.length).map (·.2) /\
  Upd (wF wl nl nums at' ++ D) (wF wl nl nums at' ++ D ++ ([(σ.length, O.list (types.map encT))] ++ rowsF code')) σ σ') _ _ _ _
  ⟨[], rfl, rfl, U1⟩ (fun acc σ' hI => hI.elim fun code' h => get h.2.2.sta mc) (fun j x acc σ' P hx hj hI hP => ?_) (fun acc σ' hlen hI => ?_)
 ·refine ex1 hI fun code' hI => ?_
  rw [List.length_nil, Nat.zero_add] at hj
  have hjl : j < code.length := by have := (List.getElem?_eq_some_iff.mp hx).1; rw [List.length_map] at this; exact this
  rw [code_at hjl] at hx
  obtain rfl := Option.some.inj hx
  have gp : σ'[code[j].1]? = some (.list (code[j].2.map encR)) := get hI.2.2.sta (.tail _ (.tail _ (.tail _ (List.mem_map.mpr ⟨code[j], List.getElem_mem hjl, rfl⟩))))
  delta ce_law_changed_0
  (and_intros)
  refine hP _ _ ⟨code' ++ [(σ'.length, code[j].2)], by rw [hI.1, List.map_append]; rfl, ?_, ?_⟩
  ·rw [List.map_append, hI.2.1, List.length_append, hj, List.length_singleton, List.take_add_one, List.map_append, List.getElem?_eq_getElem hjl]; rfl
  ·have := hI.2.2.pushU (O.list (code[j].2.map encR))
   rw [List.append_assoc, List.append_assoc] at this
   rw [show rowsF (code' ++ [(σ'.length, code[j].2)]) = rowsF code' ++ [(σ'.length, O.list (code[j].2.map encR))] from List.map_append]
   exact this
 ·refine ex1 hI fun code' hI => ?_
  have hU := hI.2.2
  have e1 : code'.map (·.2) = code.map (·.2) := by
   rw [hI.2.1, hlen, List.length_map, List.length_nil, Nat.zero_add, List.take_length]
  have A := (hU.pushU (O.list acc)).pushU (dO σ.length σ'.length name)
  rw [hI.1] at A ⊢
  have P : Upd (wF wl nl nums at' ++ D) (wF wl nl nums at' ++ (D ++ dF (σ' ++ [codeL code']).length σ.length σ'.length name types code')) σ (σ' ++ [codeL code'] ++ [dO σ.length σ'.length name]) := by
   refine A.perm ?_
   rw [List.append_assoc, List.append_assoc, List.append_assoc, List.append_assoc]
   refine List.Perm.append_left _ (List.Perm.append_left _ ?_)
   have e : ∀ (Cc : Facts) (c d : Nat × O), (Cc ++ ([c] ++ [d])).Perm ([d, c] ++ Cc) := fun Cc c d => List.perm_append_comm.trans (List.Perm.append_right _ (List.Perm.swap d c []))
   exact (List.Perm.cons _ (e _ _ _)).trans (List.Perm.swap _ _ _)
  (and_intros)
  refine hW _ _ ?_
  (and_intros)
  refine turn_spec P.sta (w.copy e1) hw hb hway h3 fun name' types' code'' σ'' at2 w'' hat U => ?_
  (and_intros)
  exact q _ σ.length σ'.length name' types' code'' σ'' at2 w'' hat (P.trans U)
end
noncomputable def V.l : V -> List V
 | .tup l => l
 | _ => []
noncomputable def V.i : V -> Nat
 | .int i => i.toNat
 | _ => 0
noncomputable def V.s : V -> String
 | .str s => s
 | _ => ""
noncomputable def dec : Nat -> V -> Tm
 | 0, _ => .M
 | n + 1, v => match v.l with
  | [s, x] => bif s.s == "p" then .p x.i else bif s.s == "M" then .M else bif s.s == "T" then .T x.i else .a (dec n x)
  | [_, c, l] => match l.l with
   | [] => .c0 c.i
   | [x] => .c1 c.i (dec n x)
   | x :: y :: _ => .c2 c.i (dec n x) (dec n y)
  | _ => .M
noncomputable def Tm.hgt : Tm -> Nat
 | .a t => t.hgt + 1
 | .c1 _ x => x.hgt + 1
 | .c2 _ x y => x.hgt + y.hgt + 1
 | _ => 0
theorem dec_enc (t : Tm) : ∀ {n : Nat}, t.hgt < n -> dec n t.enc = t := by
 induction t with
 | p k | M | T i | c0 c => intro n h; cases n with
  | zero => exact absurd h (Nat.not_lt_zero _)
  | succ n => rfl
 | a t ih => intro n h; cases n with
  | zero => exact absurd h (Nat.not_lt_zero _)
  | succ n => exact congrArg Tm.a (ih (Nat.lt_of_succ_lt_succ h))
 | c1 c x ih => intro n h; cases n with
  | zero => exact absurd h (Nat.not_lt_zero _)
  | succ n => exact congrArg (Tm.c1 c) (ih (Nat.lt_of_succ_lt_succ h))
 | c2 c x y ih1 ih2 => intro n h; cases n with
  | zero => exact absurd h (Nat.not_lt_zero _)
  | succ n => exact congr (congrArg (Tm.c2 c) (ih1 (Nat.lt_of_le_of_lt (Nat.le_add_right _ _) (Nat.lt_of_succ_lt_succ h)))) (ih2 (Nat.lt_of_le_of_lt (Nat.le_add_left _ _) (Nat.lt_of_succ_lt_succ h)))
theorem enc_inj {a b : Tm} (h : a.enc = b.enc) : a = b :=
 (dec_enc a (n := a.hgt + b.hgt + 1) (Nat.lt_succ_of_le (Nat.le_add_right _ _))).symm.trans ((congrArg _ h).trans (dec_enc b (Nat.lt_succ_of_le (Nat.le_add_left _ _))))
theorem map_inj {α β : Type} {f : α -> β} {l : List α} : ∀ {m : List α}, (∀ a ∈ l, ∀ b ∈ m, f a = f b -> a = b) -> l.map f = m.map f -> l = m := by
 induction l with
 | nil => intro m _ e; cases m with
  | nil => rfl
  | cons b m => cases e
 | cons a l ih => intro m h e; cases m with
  | nil => cases e
  | cons b m =>
   injection e with e1 e2
   rw [h a (.head _) b (.head _) e1, ih (fun x hx y hy => h x (.tail _ hx) y (.tail _ hy)) e2]
theorem encR_inj {nt nt' : Nat} {a b : Row} (w : Rwf nt a) (w' : Rwf nt' b) (h : encR a = encR b) : a = b := by
 obtain ⟨op, c, al, ml⟩ := a
 obtain ⟨op', c', al', ml'⟩ := b
 have h1 := V.tup.inj h
 injection h1 with h1 h2
 injection h2 with h2 h3
 injection h3 with h3
 have e1 := V.int.inj h1
 rw [show (Row.owner ⟨op, c, al, ml⟩).enc = _ from enc_mkC w.al, show (Row.owner ⟨op', c', al', ml'⟩).enc = _ from enc_mkC w'.al] at h2
 have h4 := V.tup.inj h2
 injection h4 with _ h4
 injection h4 with h4 h5
 injection h5 with h5
 have f1 : op = op' := Int.ofNat.inj e1
 have f2 : c = c' := Int.ofNat.inj (V.int.inj h4)
 have f3 : al = al' := map_inj (fun _ _ _ _ => enc_inj) (V.tup.inj h5)
 have f4 : ml = ml' := map_inj (fun _ _ _ _ => enc_inj) (V.tup.inj h3)
 rw [f1, f2, f3, f4]
theorem encR_pure {nt : Nat} {r : Row} (w : Rwf nt r) : pureN 37 (encR r) = true := List.all_eq_true.mpr fun x hx => by
 rcases List.mem_cons.mp hx with rfl | hx
 ·rfl
 ·rcases List.mem_cons.mp hx with rfl | hx
  ·exact pureN_le (by decide) (enc_pure (nt := nt) (m := 3) (ok_mkC w.c w.ao))
  ·rw [List.mem_singleton.mp hx]
   refine List.all_eq_true.mpr fun y hy => ?_
   obtain ⟨τ, hτ, rfl⟩ := List.mem_map.mp hy
   exact pureN_le (by decide) (enc_pure (nt := nt) (m := 2) (w.mo τ hτ))
theorem eqv_lists : ∀ (l m : List (List V)), PyData.eqvAll (l.map fun x => .list (pds x)) (m.map fun x => .list (pds x)) = PyData.eqvAll (pds (l.map V.tup)) (pds (m.map V.tup))
 | [], [] => rfl
 | [], _ :: _ => rfl
 | _ :: _, [] => rfl
 | x :: l, y :: m => congrArg (PyData.eqvAll (pds x) (pds y) && ·) (eqv_lists l m)
def Alike (name : String) (types : List (String × Nat)) (rows : List (List Row)) (name' : String) (types' : List (String × Nat)) (rows' : List (List Row)) : Prop := name = name' /\ types = types' /\ rows = rows'
theorem dat_list {σ : St} {n : Nat} {l : List V} (g : σ[n]? = some (.list l)) {d : List PyData} {m : Nat} (h : l.mapM (dat σ m) = some d) : dat σ (m + 1) (.loc n) = some (.list d) := by
 show (match σ[n]? with | some (.list l) => (l.mapM (dat σ m)).map PyData.list | _ => none) = _
 rw [g]; exact congrArg (Option.map PyData.list) h
section
variable {σ : St} {dl tl cl : Nat} {name : String} {types : List (String × Nat)} {code : List (Nat × List Row)}
noncomputable abbrev rowsV (code : List (Nat × List Row)) : List (List V) := code.map fun p => p.2.map encR
theorem types_dat (g : σ[tl]? = some (.list (types.map encT))) : dat σ 40 (.loc tl) = some (.list (pds (types.map encT))) :=
 dat_list g (mapM_pd fun x hx => by
  obtain ⟨t, _, rfl⟩ := List.mem_map.mp hx
  exact dat_pure σ 39 39 _ (Nat.le_refl _) rfl)
theorem code_dat (g : σ[cl]? = some (codeL code)) (gr : ∀ p ∈ code, σ[p.1]? = some (.list (p.2.map encR))) {nt : Nat} (wr : ∀ p ∈ code, ∀ r ∈ p.2, Rwf nt r) : dat σ 40 (.loc cl) = some (.list ((rowsV code).map fun x => .list (pds x))) := by
 refine dat_list g ?_
 clear g
 induction code with
 | nil => rfl
 | cons p l ih =>
  have h1 : dat σ 39 (.loc p.1) = some (.list (pds (p.2.map encR))) := dat_list (gr p (.head _)) (mapM_pd fun x hx => by
   obtain ⟨r, hr, rfl⟩ := List.mem_map.mp hx
   exact dat_pure σ 37 38 _ (by decide) (encR_pure (wr p (.head _) r hr)))
  rw [List.map_cons, List.mapM_cons, h1, ih (fun z hz => gr z (.tail _ hz)) fun z hz => wr z (.tail _ hz)]
  rfl
theorem rows_pure {nt : Nat} (wr : ∀ p ∈ code, ∀ r ∈ p.2, Rwf nt r) : pureN 40 (.tup ((rowsV code).map V.tup)) = true := List.all_eq_true.mpr fun x hx => by
 obtain ⟨_, hy, rfl⟩ := List.mem_map.mp hx
 obtain ⟨p, hp, rfl⟩ := List.mem_map.mp hy
 refine List.all_eq_true.mpr fun z hz => ?_
 obtain ⟨r, hr, rfl⟩ := List.mem_map.mp hz
 exact pureN_le (by decide) (encR_pure (wr p hp r hr))
theorem alike_spec {N : Nat} {Q : Post} {dl' tl' cl' : Nat} {name' : String} {types' : List (String × Nat)} {code' : List (Nat × List Row)}
  (h : Has σ (dF dl tl cl name types code)) (h' : Has σ (dF dl' tl' cl' name' types' code')) (w : Dwf name types code) (w' : Dwf name' types' code')
  (q : ∀ t : Bool, (Alike name types (code.map (·.2)) name' types' (code'.map (·.2)) ↔ t = true) -> Q (.bool t) σ) : wpF (N + 1) .law_alike [.loc dl, .loc dl'] Q σ := by
 have g1 : σ[dl]? = some (dO tl cl name) := h.get (.head _)
 have g2 : σ[dl']? = some (dO tl' cl' name') := h'.get (.head _)
 have hr : ∀ {dl tl cl : Nat} {name : String} {types : List (String × Nat)} {code : List (Nat × List Row)}, Has σ (dF dl tl cl name types code) -> ∀ p ∈ code, σ[p.1]? = some (.list (p.2.map encR)) := fun h p hp => h.get (.tail _ (.tail _ (.tail _ (List.mem_map.mpr ⟨p, hp, rfl⟩))))
 have T1 := types_dat (h.get (.tail _ (.head _)))
 have T2 := types_dat (h'.get (.tail _ (.head _)))
 have C1 := code_dat (h.get (.tail _ (.tail _ (.head _)))) (hr h) fun p hp => (w.rl p hp).2
 have C2 := code_dat (h'.get (.tail _ (.tail _ (.head _)))) (hr h') fun p hp => (w'.rl p hp).2
 have no : ¬ Alike name types (code.map (·.2)) name' types' (code'.map (·.2)) -> Q (.bool false) σ := fun h => q false ⟨fun z => (h z).elim, fun z => Bool.noConfusion z⟩
 by_cases h1 : name = name'
 ·have n1 : (name == name') = true := beq_iff_eq.mpr h1
  have tp : ∀ types : List (String × Nat), pureN 40 (.tup (types.map encT)) = true := fun types => List.all_eq_true.mpr fun x hx => by
   obtain ⟨t, _, rfl⟩ := List.mem_map.mp hx; rfl
  have te : ∀ {t : Bool}, (types = types' ↔ t = true) -> PyData.eqv (.list (pds (types.map encT))) (.list (pds (types'.map encT))) = t := fun ht => eqv_t (tp types) (tp types') (Iff.trans ⟨fun e => map_inj (fun a _ b _ e => by
   have e := V.tup.inj e
   injection e with e1 e2
   injection e2 with e2
   exact Prod.ext (V.str.inj e1) (Int.ofNat.inj (V.int.inj e2))) (V.tup.inj e), fun e => by rw [e]⟩ ht)
  by_cases h2 : types = types'
  ·have n2 := te (t := true) ⟨fun _ => rfl, fun _ => h2⟩
   have ce : ∀ {t : Bool}, (code.map (·.2) = code'.map (·.2) ↔ t = true) -> PyData.eqv (.list ((rowsV code).map fun x => .list (pds x))) (.list ((rowsV code').map fun x => .list (pds x))) = t := fun ht => (eqv_lists _ _).trans (eqv_t (rows_pure fun p hp => (w.rl p hp).2) (rows_pure fun p hp => (w'.rl p hp).2) (Iff.trans ⟨fun e => ?_, fun e => ?_⟩ ht))
   rotate_left
   ·have e := map_inj (fun _ _ _ _ e => V.tup.inj e) (V.tup.inj e)
    have e1 : ∀ c : List (Nat × List Row), rowsV c = (c.map (·.2)).map (List.map encR) := fun c => by rw [List.map_map]; rfl
    rw [e1, e1] at e
    refine map_inj (fun a ha b hb e => ?_) e
    obtain ⟨p, hp, rfl⟩ := List.mem_map.mp ha
    obtain ⟨p', hp', rfl⟩ := List.mem_map.mp hb
    exact map_inj (fun r hr r' hr' e => encR_inj ((w.rl p hp).2 r hr) ((w'.rl p' hp').2 r' hr') e) e
   ·have e1 : ∀ c : List (Nat × List Row), rowsV c = (c.map (·.2)).map (List.map encR) := fun c => by rw [List.map_map]; rfl
    rw [e1, e1, e]
   by_cases h3 : code.map (·.2) = code'.map (·.2)
   ·have n3 := ce (t := true) ⟨fun _ => rfl, fun _ => h3⟩
    refine enter2 rfl ?_
    delta body_law_alike
    (and_intros)
    exact q true ⟨fun _ => rfl, fun _ => ⟨h1, h2, h3⟩⟩
   ·have n3 := ce (t := false) ⟨fun z => (h3 z).elim, fun z => Bool.noConfusion z⟩
    refine enter2 rfl ?_
    delta body_law_alike
    (and_intros)
    exact no fun z => h3 z.2.2
  ·have n2 := te (t := false) ⟨fun z => (h2 z).elim, fun z => Bool.noConfusion z⟩
   refine enter2 rfl ?_
   delta body_law_alike
   (and_intros)
   exact no fun z => h2 z.2.1
 ·have n1 := str_f h1
  refine enter2 rfl ?_
  delta body_law_alike
  (and_intros)
  exact no fun z => h1 z.1
end
theorem cA2 {α β γ : Type} (f : α -> β -> γ) {a a' : α} {b b' : β} (h : a = a') (g : b = b') : f a b = f a' b' := h ▸ g ▸ rfl
section
open Classical
noncomputable def pos (ts : List Tm) (t : Tm) : Nat := ts.idxOf t
variable {ts us : List Tm} {t u : Tm}
theorem pos_lt (h : t ∈ ts) : pos ts t < ts.length := by unfold pos; exact List.idxOf_lt_length_of_mem h
theorem pos_get (h : t ∈ ts) : ts[pos ts t]? = some t := by
 rw [List.getElem?_eq_getElem (pos_lt h)]
 exact congrArg some (by unfold pos; exact List.getElem_idxOf _)
theorem pos_inj (h : t ∈ ts) (h' : u ∈ ts) (e : pos ts t = pos ts u) : t = u := Option.some.inj ((pos_get h).symm.trans (e ▸ pos_get h'))
theorem pos_of (nd : ts.Nodup) {i : Nat} (h : ts[i]? = some t) : pos ts t = i :=
 (List.getElem?_inj (pos_lt (List.mem_of_getElem? h)) nd).mp ((pos_get (List.mem_of_getElem? h)).trans h.symm)
theorem pos_app (h : t ∈ ts) : pos (ts ++ us) t = pos ts t := by
 unfold pos; rw [List.idxOf_append, if_pos h]
theorem pos_new (h : t ∉ ts) : pos (ts ++ [t]) t = ts.length := by
 unfold pos; rw [List.idxOf_append, if_neg h, List.idxOf_cons_self, Nat.zero_add]
end
noncomputable def Tm.subs : Tm -> List Tm
 | .a t => [t]
 | .c1 _ x => [x]
 | .c2 _ x y => [x, y]
 | _ => []
noncomputable def Tm.dep : Tm -> Nat
 | .a t => t.dep + 1
 | .c1 _ x => x.dep + 1
 | .c2 _ x y => max x.dep y.dep + 1
 | _ => 1
noncomputable def Tm.wt : Tm -> Nat
 | .a t => 1 + t.wt
 | .c1 _ x => 1 + x.wt
 | .c2 _ x y => 1 + x.wt + y.wt
 | _ => 1
noncomputable def Tm.opn : Tm -> Nat
 | .T _ => 1
 | .M => 1
 | .a t => t.opn
 | .c1 _ x => x.opn
 | .c2 _ x y => if y.opn = 1 then 1 else x.opn
 | _ => 0
theorem dep_pos (t : Tm) : 1 ≤ t.dep := by cases t <;> exact Nat.le_add_left 1 _
theorem wt_pos (t : Tm) : 1 ≤ t.wt := by
 cases t with
 | c2 _ x y => exact Nat.le_trans (Nat.le_add_right 1 x.wt) (Nat.le_add_right _ y.wt)
 | a t => exact Nat.le_add_right 1 _
 | c1 _ t => exact Nat.le_add_right 1 _
 | _ => exact Nat.le_refl 1
theorem opn_01 (t : Tm) : t.opn = 0 ∨ t.opn = 1 := by
 induction t with
 | p => exact .inl rfl
 | c0 => exact .inl rfl
 | M => exact .inr rfl
 | T => exact .inr rfl
 | a t ih => exact ih
 | c1 c x ih => exact ih
 | c2 c x y h1 h2 =>
  exact if g : y.opn = 1 then .inr (if_pos g) else h1.imp (if_neg g).trans (if_neg g).trans
theorem wt_sub {t s : Tm} (h : s ∈ t.subs) : s.wt < t.wt := by
 cases t with
 | a u => rw [List.mem_singleton.mp h]; exact Nat.lt_add_of_pos_left Nat.one_pos
 | c1 c u => rw [List.mem_singleton.mp h]; exact Nat.lt_add_of_pos_left Nat.one_pos
 | c2 c x y =>
  rcases List.mem_cons.mp h with rfl | h
  ·exact Nat.lt_of_lt_of_le (Nat.lt_add_of_pos_left Nat.one_pos) (Nat.le_add_right _ _)
  ·rw [List.mem_singleton.mp h]; exact Nat.lt_add_of_pos_left (Nat.lt_of_lt_of_le Nat.one_pos (Nat.le_add_right 1 _))
 | _ => cases h
theorem subs_mkC {c : Nat} : ∀ {l : List Tm}, l.length ≤ 2 -> (mkC c l).subs = l
 | [], _ => rfl
 | [_], _ => rfl
 | [_, _], _ => rfl
 | _ :: _ :: _ :: _, h => absurd h (by simp)
inductive TmV : Tm -> Prop
 | p (k : Nat) : TmV (.p k)
 | M : TmV .M
 | T (i : Nat) : TmV (.T i)
 | a (t : Tm) : TmV (.a t)
 | c (c : Nat) (l : List Tm) : l.length ≤ 2 -> TmV (mkC c l)
theorem tmV : ∀ t : Tm, TmV t
 | .p k => .p k
 | .M => .M
 | .T i => .T i
 | .a t => .a t
 | .c0 c => .c c [] (Nat.zero_le 2)
 | .c1 c x => .c c [x] (Nat.le_add_left 1 1)
 | .c2 c x y => .c c [x, y] (Nat.le_refl 2)
noncomputable def posV (ts : List Tm) (t : Tm) : V := .int (pos ts t)
noncomputable def rowG (g h : Nat -> V) (ts : List Tm) : Tm -> V
 | .p k => .tup [.int 1, .int k]
 | .M => .tup [.int 7, .int 0]
 | .T i => h i
 | .a t => .tup [.int 4, posV ts t]
 | .c0 c => .tup [.int 2, g c, .tup []]
 | .c1 c x => .tup [.int 2, g c, .tup [posV ts x]]
 | .c2 c x y => .tup [.int 2, g c, .tup [posV ts x, posV ts y]]
theorem rowG_mkC {g h : Nat -> V} {ts : List Tm} {c : Nat} : ∀ {l : List Tm}, l.length ≤ 2 -> rowG g h ts (mkC c l) = .tup [.int 2, g c, .tup (l.map (posV ts))]
 | [], _ => rfl
 | [_], _ => rfl
 | [_, _], _ => rfl
 | _ :: _ :: _ :: _, h => absurd h (by simp)
noncomputable def Tm.top : Tm -> Option Nat
 | .c0 c => some c
 | .c1 c _ => some c
 | .c2 c _ _ => some c
 | _ => none
theorem posV_app {ts us : List Tm} {t : Tm} (h : t ∈ ts) : posV (ts ++ us) t = posV ts t := congrArg (fun n : Nat => V.int n) (pos_app h)
theorem i_ne {i j : Int} {r s : List V} (e : V.tup (.int i :: r) = .tup (.int j :: s)) (h : decide (i = j) = false) : False := by
 injection e with e; injection e with e _; injection e with e; exact of_decide_eq_false h e
theorem t2_inj {i : Int} {a b : V} (e : V.tup [.int i, a] = .tup [.int i, b]) : a = b := by
 injection e with e; injection e with _ e; injection e
theorem n_inj {a b : Nat} (e : V.int a = .int b) : a = b := by injection e with e; exact Int.ofNat.inj e
noncomputable def decG (cd : V -> Nat) (ts : List Tm) (v : V) : Tm := match v.l with
 | [s, x] => bif Nat.beq s.i 1 then .p x.i else bif Nat.beq s.i 7 then .M else bif Nat.beq s.i 6 then .T x.i else .a (ts.getD x.i .M)
 | [_, c, l] => mkC (cd c) (l.l.map fun x => ts.getD x.i .M)
 | _ => .T 99
structure GH (g h : Nat -> V) (cd : V -> Nat) (ok : Tm -> Prop) : Prop where
 T : ∀ i, h i = .tup [.int 6, .int i] ∨ (h i = .tup [] /\ i = 99)
 c : ∀ t c, ok t -> t.top = some c -> cd (g c) = c
 pu : ∀ c, pureN 4 (g c) = true
section
variable {g h : Nat -> V} {cd : V -> Nat} {ok : Tm -> Prop} (G : GH g h cd ok) {ts us : List Tm} {t u : Tm}
theorem rowG_app (hs : ∀ s ∈ t.subs, s ∈ ts) : rowG g h (ts ++ us) t = rowG g h ts t := by
 cases t with
 | a t => exact congrArg (fun v => V.tup [.int 4, v]) (posV_app (hs _ (.head _)))
 | c1 c t => exact congrArg (fun v => V.tup [.int 2, g c, .tup [v]]) (posV_app (hs _ (.head _)))
 | c2 c x y => exact cA2 (fun v w => V.tup [.int 2, g c, .tup [v, w]]) (posV_app (hs x (.head _))) (posV_app (hs y (.tail _ (.head _))))
 | _ => rfl
theorem pos_getD (h : t ∈ ts) : ts.getD (pos ts t) .M = t := by rw [List.getD_eq_getElem?_getD, pos_get h]; rfl
include G
theorem dec_row (o : ok t) (hs : ∀ s ∈ t.subs, s ∈ ts) : decG cd ts (rowG g h ts t) = t := by
 cases t with
 | p k => rfl
 | M => rfl
 | T i =>
  show decG cd ts (h i) = _
  rcases G.T i with e | ⟨e, rfl⟩
  ·rw [e]; rfl
  ·rw [e]; rfl
 | a t => exact congrArg Tm.a (pos_getD (hs t (.head _)))
 | c0 c => exact congrArg Tm.c0 (G.c _ c o rfl)
 | c1 c x => exact cA2 Tm.c1 (G.c _ c o rfl) (pos_getD (hs x (.head _)))
 | c2 c x y =>
  show Tm.c2 _ _ _ = _
  rw [G.c _ c o rfl]
  exact cA2 (Tm.c2 c) (pos_getD (hs x (.head _))) (pos_getD (hs y (.tail _ (.head _))))
theorem rowG_inj (ot : ok t) (ou : ok u) (ht : ∀ s ∈ t.subs, s ∈ ts) (hu : ∀ s ∈ u.subs, s ∈ ts) (e : rowG g h ts t = rowG g h ts u) : t = u :=
 (dec_row G ot ht).symm.trans ((congrArg (decG cd ts) e).trans (dec_row G ou hu))
theorem kd_rowG : kd (rowG g h ts t) = 3 := by
 have k3 : ∀ c l, List.all l (pureN 3) = true -> kd (.tup [.int 2, g c, .tup l]) = 3 := fun c l hl => if_pos (by
  show (pureN 4 (g c) && (List.all l (pureN 3) && true)) = true
  rw [G.pu, hl]; rfl)
 cases t with
 | T i =>
  show kd (h i) = 3
  rcases G.T i with e | ⟨e, _⟩
  ·rw [e]; rfl
  ·rw [e]; rfl
 | c0 c => exact k3 c _ rfl
 | c1 c x => exact k3 c _ rfl
 | c2 c x y => exact k3 c _ rfl
 | _ => rfl
end
noncomputable def rowV (ts : List Tm) (t : Tm) : V := rowG (fun c => .int c) (fun i => .tup [.int 6, .int i]) ts t
theorem rowV_mkC {ts : List Tm} {c : Nat} {l : List Tm} (h : l.length ≤ 2) : rowV ts (mkC c l) = .tup [.int 2, .int c, .tup (l.map (posV ts))] := rowG_mkC h
theorem rowGH : GH (fun c => .int c) (fun i => .tup [.int 6, .int i]) V.i fun _ => True := ⟨fun _ => .inl rfl, fun _ _ _ _ => rfl, fun _ => rfl⟩
structure KT (ts : List Tm) : Prop where
 pre : ∀ k, k < 16 -> ts[k]? = some (.p k)
 nd : ts.Nodup
 cl : ∀ t ∈ ts, ∀ s ∈ t.subs, s ∈ ts
theorem KT.p {ts : List Tm} (h : KT ts) {k : Nat} (hk : k < 16) : Tm.p k ∈ ts /\ pos ts (.p k) = k := ⟨List.mem_of_getElem? (h.pre k hk), pos_of h.nd (h.pre k hk)⟩
theorem KT.len {ts : List Tm} (h : KT ts) : 16 ≤ ts.length := (List.getElem?_eq_some_iff.mp (h.pre 15 (by decide))).1
theorem KT.add {ts : List Tm} (h : KT ts) {t : Tm} (ht : t ∉ ts) (hs : ∀ s ∈ t.subs, s ∈ ts) : KT (ts ++ [t]) where
 pre := fun k hk => by rw [List.getElem?_append_left (Nat.lt_of_lt_of_le hk h.len)]; exact h.pre k hk
 nd := List.nodup_append.mpr ⟨h.nd, List.nodup_cons.mpr ⟨List.not_mem_nil, List.nodup_nil⟩, fun a ha b hb e => ht (by rw [List.mem_singleton.mp hb] at e; exact e ▸ ha)⟩
 cl := fun u hu s hsu => List.mem_append_left _ ((List.mem_append.mp hu).elim (fun z => h.cl u z s hsu) fun z => hs s (List.mem_singleton.mp z ▸ hsu))
theorem dget_none {k : V} : ∀ {kv : List (V × V)}, (∀ e ∈ kv, e.1 ≠ k) -> dget kv k = none
 | [], _ => rfl
 | (_, _) :: _, h => dg_tl (h _ (.head _)) (dget_none fun e he => h e (.tail _ he))
theorem dput_fresh {k v : V} : ∀ {kv : List (V × V)}, (∀ e ∈ kv, e.1 ≠ k) -> dput kv k v = kv ++ [(k, v)]
 | [], _ => rfl
 | (_, _) :: _, h => dp_tl (h _ (.head _)) (dput_fresh fun e he => h e (.tail _ he))
theorem dget_map {f g : Tm -> V} {t : Tm} : ∀ {ts : List Tm}, t ∈ ts -> (∀ u ∈ ts, f u = f t -> u = t) -> dget (ts.map fun u => (f u, g u)) (f t) = some (g t)
 | u :: r, h, hf => by
  by_cases e : f u = f t
  ·rw [hf u (.head _) e]; exact dg_hd
  ·exact dg_tl e (dget_map ((List.mem_cons.mp h).resolve_left fun z => e (by rw [z])) fun z hz => hf z (.tail _ hz))
noncomputable def kvG (g h : Nat -> V) (ts : List Tm) : List (V × V) := ts.map fun t => (rowG g h ts t, posV ts t)
theorem rowsG_add {g h : Nat -> V} {ts : List Tm} {t : Tm} (cl : ∀ t ∈ ts, ∀ s ∈ t.subs, s ∈ ts) (hs : ∀ s ∈ t.subs, s ∈ ts) : (ts ++ [t]).map (rowG g h (ts ++ [t])) = ts.map (rowG g h ts) ++ [rowG g h ts t] := by
 rw [List.map_append]
 exact cA2 (· ++ ·) (List.map_congr_left fun u hu => rowG_app (cl u hu)) (by rw [List.map_singleton, rowG_app hs])
theorem kvG_add {g h : Nat -> V} {ts : List Tm} {t : Tm} (cl : ∀ t ∈ ts, ∀ s ∈ t.subs, s ∈ ts) (ht : t ∉ ts) (hs : ∀ s ∈ t.subs, s ∈ ts) : kvG g h (ts ++ [t]) = kvG g h ts ++ [(rowG g h ts t, .int ts.length)] := by
 unfold kvG
 rw [List.map_append]
 refine cA2 (· ++ ·) (List.map_congr_left fun u hu => by rw [rowG_app (cl u hu), posV_app hu]) ?_
 rw [List.map_singleton, rowG_app hs, posV, pos_new ht]
section
variable {g h : Nat -> V} {cd : V -> Nat} {ok : Tm -> Prop} (G : GH g h cd ok) {ts : List Tm} {t : Tm} (cl : ∀ t ∈ ts, ∀ s ∈ t.subs, s ∈ ts) (al : ∀ t ∈ ts, ok t)
include G cl al
theorem kvG_get (ht : t ∈ ts) : dget (kvG g h ts) (rowG g h ts t) = some (posV ts t) :=
 dget_map (f := rowG g h ts) ht fun u hu e => rowG_inj G (al u hu) (al t ht) (cl u hu) (cl t ht) e
theorem kvG_none (o : ok t) (ht : t ∉ ts) (hs : ∀ s ∈ t.subs, s ∈ ts) : ∀ e ∈ kvG g h ts, e.1 ≠ rowG g h ts t := fun e he q => by
 obtain ⟨u, hu, rfl⟩ := List.mem_map.mp he
 exact ht (rowG_inj G (al u hu) o (cl u hu) hs q ▸ hu)
omit cl al in
theorem kvG_ok (ts : List Tm) (t : Tm) : keyOk (kvG g h ts) (rowG g h ts t) := ko_mk (fun e => absurd ((kd_rowG G).symm.trans e) (by decide)) fun e he => by
 obtain ⟨u, hu, rfl⟩ := List.mem_map.mp he
 exact (kd_rowG G).trans (kd_rowG G).symm
end
noncomputable def kvOf (ts : List Tm) : List (V × V) := kvG (fun c => .int c) (fun i => .tup [.int 6, .int i]) ts
theorem kvOf_get {ts : List Tm} (h : KT ts) {t : Tm} (ht : t ∈ ts) : dget (kvOf ts) (rowV ts t) = some (posV ts t) := kvG_get rowGH h.cl (fun _ _ => trivial) ht
theorem kvOf_none {ts : List Tm} (h : KT ts) {t : Tm} (ht : t ∉ ts) (hs : ∀ s ∈ t.subs, s ∈ ts) : ∀ e ∈ kvOf ts, e.1 ≠ rowV ts t := kvG_none rowGH h.cl (fun _ _ => trivial) trivial ht hs
theorem kvOf_add {ts : List Tm} (h : KT ts) {t : Tm} (ht : t ∉ ts) (hs : ∀ s ∈ t.subs, s ∈ ts) : kvOf (ts ++ [t]) = kvOf ts ++ [(rowV ts t, .int ts.length)] := kvG_add h.cl ht hs
theorem rows_add {ts : List Tm} (h : KT ts) {t : Tm} (hs : ∀ s ∈ t.subs, s ∈ ts) : (ts ++ [t]).map (rowV (ts ++ [t])) = ts.map (rowV ts) ++ [rowV ts t] := rowsG_add h.cl hs
theorem kvOf_ok (ts : List Tm) (t : Tm) : keyOk (kvOf ts) (rowV ts t) := kvG_ok rowGH ts t
structure KL where
 kt : Nat
 ro : Nat
 ix : Nat
 de : Nat
 we : Nat
 op : Nat
noncomputable abbrev ktO (K : KL) : O := .inst .KindTable [(.rows, .loc K.ro), (.index, .loc K.ix), (.depths, .loc K.de), (.weights, .loc K.we), (.opens, .loc K.op)]
noncomputable def ktF (K : KL) (ts : List Tm) : Facts := [(K.kt, ktO K), (K.ro, .list (ts.map (rowV ts))), (K.ix, .dict (kvOf ts)), (K.de, .list (ts.map fun t => V.int t.dep)), (K.we, .list (ts.map fun t => V.int t.wt)), (K.op, .list (ts.map fun t => V.int t.opn))]
structure KR (K : KL) (ts : List Tm) (σ : St) : Prop where
 kt : σ[K.kt]? = some (ktO K)
 ro : σ[K.ro]? = some (.list (ts.map (rowV ts)))
theorem Has.ix {σ : St} {fs : Facts} (h : Has σ fs) (i : Nat) {n : Nat} {o : O} (e : fs[i]? = some (n, o)) : σ[n]? = some o := h (n, o) (List.mem_of_getElem? e)
theorem Sta.setIx {σ : St} {n : Nat} {o o' : O} {fs : Facts} (h : Sta σ fs) (i : Nat) (e : fs[i]? = some (n, o)) : Upd fs (fs.set i (n, o')) σ (σ.set n o') :=
 (split_at e).elim fun A h1 => h1.elim fun B h1 => by
  rw [h1.2]
  rw [h1.1] at h ⊢
  exact h.setAt
noncomputable def Tm.std (t : Tm) : Prop := t ≠ .p 0 /\ t ≠ .p 14
theorem rowV_cons (ts : List Tm) (t : Tm) : ∃ (s : Int) (r : List V), rowV ts t = .tup (.int s :: r) /\ (s ≤ 4 ∨ s = 6 ∨ s = 7) := by
 rcases tmV t with k | _ | i | x | ⟨c, l, hl⟩
 ·exact ⟨1, _, rfl, .inl (by decide)⟩
 ·exact ⟨7, _, rfl, .inr (.inr rfl)⟩
 ·exact ⟨6, _, rfl, .inr (.inl rfl)⟩
 ·exact ⟨4, _, rfl, .inl (by decide)⟩
 ·exact ⟨2, _, rowV_mkC hl, .inl (by decide)⟩
theorem for_each {α : Type} {lv : St -> Prop} {body : Nt -> Nt} {i : Nat} {σ : St} (fr : Option V -> Fr) (f : α -> V) : ∀ (l : List α) (N : Nt) (x : Option V), lv σ -> (∀ x, N (fr x) σ) ->
  (∀ t ∈ l, ∀ x (N' : Nt), N' (fr (some (f t))) σ -> setK (f t) (fr x) i fun ρ1 => body N' ρ1 σ) -> forW lv false [i] body (l.map f) N (fr x) σ
 | [], N, x, hl, he, hs => ⟨hl, he x⟩
 | t :: l, N, x, hl, he, hs => ⟨hl, hs t (.head _) x _ (for_each fr f l N _ hl he fun t h => hs t (.tail _ h))⟩
section
variable {K : KL} {ts : List Tm} {σ : St} {Q : Post} {n : Nat}
theorem KR.row (h : KR K ts σ) {t : Tm} (ht : t ∈ ts) (q : Q (rowV ts t) σ) : wpF (n + 1) .KindTable_row [.loc K.kt, posV ts t] Q σ :=
 row_spec h.kt rfl h.ro (by rw [List.getElem?_map, pos_get ht]; rfl) q
theorem may_stand_spec (hk : KT ts) (h : KR K ts σ) {t : Tm} (ht : t ∈ ts) (hs : t.std) (q : Q (.bool true) σ) : wpF (n + 2) .may_stand [.loc K.kt, posV ts t] Q σ := by
 have z : ∀ k, k < 16 -> t ≠ .p k -> ¬ (pos ts t : Int) = k := fun k hk' hn e => hn (pos_inj ht (hk.p hk').1 ((Int.ofNat.inj e).trans (hk.p hk').2.symm))
 have z0 : ¬ (pos ts t : Int) = 0 := z 0 (by decide) hs.1
 have z1 : ¬ (pos ts t : Int) = 14 := z 14 (by decide) hs.2
 have g := h.kt
 refine ex2 (rowV_cons ts t) fun s r e => ?_
 refine enter2 rfl ?_
 delta body_may_stand
 (and_intros)
 refine KR.row h ht ?_
 rw [e.1]
 rcases e.2 with h | rfl | rfl <;> (and_intros)
theorem inner_spec {t : Tm} (q : Q (.tup (t.subs.map (posV ts))) σ) : wpF (n + 1) .inner_kinds [rowV ts t] Q σ := by
 rcases tmV t with k | _ | i | x | ⟨c, l, hl⟩
 ·refine enter1 rfl ?_
  delta body_inner_kinds
  (and_intros)
  exact q
 ·refine enter1 rfl ?_
  delta body_inner_kinds
  (and_intros)
  exact q
 ·refine enter1 rfl ?_
  delta body_inner_kinds
  (and_intros)
  exact q
 ·refine enter1 rfl ?_
  delta body_inner_kinds
  (and_intros)
  exact q
 ·rw [rowV_mkC hl]
  rw [subs_mkC hl] at q
  refine enter1 rfl ?_
  delta body_inner_kinds
  (and_intros)
theorem check_args_spec (hk : KT ts) (h : KR K ts σ) {l : List Tm} (ht : ∀ t ∈ l, t ∈ ts /\ t.std) (q : Q .none σ) : wpF (n + 3) .check_args [.loc K.kt, .tup (l.map (posV ts))] Q σ := by
 refine enter2 rfl ?_
 delta body_check_args
 (and_intros)
 refine for_each (fun x => [some (.loc K.kt), some (.tup (l.map (posV ts))), x]) (posV ts) l _ _ trivial (fun _ => q) fun t hm x N' hN => ?_
 delta lb_check_args_0
 (and_intros)
 refine may_stand_spec hk h (ht t hm).1 (ht t hm).2 ?_
 (and_intros)
 exact hN
theorem tid_none {c : Nat} (h : 21 ≤ c) : tget Tb.TID_PRIM.rows (c : Int) = none := by
 have e : ∀ (l : List (Int × Int)), (∀ p ∈ l, p.1 < 21) -> tget l (c : Int) = none := by
  intro l
  induction l with
  | nil => intro _; rfl
  | cons p l ih => exact fun hl => (if_neg fun e => Int.not_lt.mpr (Int.ofNat_le.mpr h) (Int.lt_of_le_of_lt (Int.le_of_eq e.symm) (hl p (.head _)))).trans (ih fun p hp => hl p (.tail _ hp))
 exact e _ (by decide)
noncomputable def Tm.putable (ts : List Tm) : Tm -> Prop
 | .p _ => False
 | .M => True
 | .T _ => True
 | .a t => t ∈ ts /\ t.std
 | .c0 c => 21 ≤ c
 | .c1 c x => 21 ≤ c /\ x ∈ ts /\ x.std
 | .c2 c x y => 21 ≤ c /\ (x ∈ ts /\ x.std) /\ y ∈ ts /\ y.std
theorem put_mkC {c : Nat} (hc : 21 ≤ c) : ∀ {l : List Tm}, (∀ t ∈ l, t ∈ ts /\ t.std) -> (mkC c l).putable ts
 | [], _ => hc
 | [_], h => ⟨hc, h _ (.head _)⟩
 | [_, _], h => ⟨hc, h _ (.head _), h _ (.tail _ (.head _))⟩
 | _ :: _ :: _ :: _, _ => hc
inductive PutV (ts : List Tm) : Tm -> Prop
 | M : PutV ts .M
 | T (i : Nat) : PutV ts (.T i)
 | a (t : Tm) : t ∈ ts -> t.std -> PutV ts (.a t)
 | c (c : Nat) (l : List Tm) : l.length ≤ 2 -> 21 ≤ c -> (∀ t ∈ l, t ∈ ts /\ t.std) -> PutV ts (mkC c l)
theorem putV : ∀ {t : Tm}, t.putable ts -> PutV ts t
 | .M, _ => .M
 | .T i, _ => .T i
 | .a t, h => .a t h.1 h.2
 | .c0 c, h => .c c [] (Nat.zero_le 2) h nofun
 | .c1 c x, h => .c c [x] (Nat.le_add_left 1 1) h.1 fun t ht => List.mem_singleton.mp ht ▸ h.2
 | .c2 c x y, h => .c c [x, y] (Nat.le_refl 2) h.1 (List.forall_mem_cons.mpr ⟨h.2.1, List.forall_mem_cons.mpr ⟨h.2.2, nofun⟩⟩)
theorem putable_sub {t : Tm} (h : t.putable ts) : ∀ s ∈ t.subs, s ∈ ts /\ s.std := by
 rcases putV h with _ | i | ⟨x, h1, h2⟩ | ⟨c, l, hl, _, ha⟩
 ·exact nofun
 ·exact nofun
 ·exact fun s hs => List.mem_singleton.mp hs ▸ ⟨h1, h2⟩
 ·rw [subs_mkC hl]; exact ha
theorem check_named_spec (hk : KT ts) (h : KR K ts σ) {c : Nat} {l : List Tm} (hc : 21 ≤ c) (ht : ∀ t ∈ l, t ∈ ts /\ t.std) (q : Q .none σ) : wpF (n + 4) .check_named [.loc K.kt, .tup [.int 2, .int c, .tup (l.map (posV ts))]] Q σ := by
 have e1 : ¬ (c : Int) ≤ 0 := fun h => Nat.not_le.mpr (Nat.lt_of_lt_of_le (by decide) hc) (Int.ofNat_le.mp h)
 have e2 : (tget Tb.TID_PRIM.rows (c : Int)).isSome = false := by rw [tid_none hc]; rfl
 refine enter2 rfl ?_
 delta body_check_named
 (and_intros)
 refine check_args_spec hk h ht ?_
 (and_intros)
 exact q
theorem check_row_spec (hk : KT ts) (h : KR K ts σ) {t : Tm} (ht : t.putable ts) (q : Q .none σ) : wpF (n + 5) .check_kind_row [.loc K.kt, rowV ts t] Q σ := by
 have g := h.kt
 have hsub := putable_sub ht
 have loop : ∀ {s : Int} {N : Nt}, (∀ x, N [some (.loc K.kt), some (rowV ts t), some (.int s), x] σ) ->
   forW (fun _ => True) false [3] (wpS (wpF (n + 4)) Q lb_check_kind_row_0) (t.subs.map (posV ts)) N [some (.loc K.kt), some (rowV ts t), some (.int s), none] σ := fun {s N} q => by
  refine for_each (fun x => [some (.loc K.kt), some (rowV ts t), some (.int s), x]) (posV ts) _ _ _ trivial q fun t hm x N' hN => ?_
  delta lb_check_kind_row_0
  (and_intros)
  refine wpF_le (n := 1) (Nat.le_add_left 1 _) (KR.row h (hsub t hm).1 ?_)
  (and_intros)
  exact hN
 rcases putV ht with _ | i | ⟨x, h1, h2⟩ | ⟨c, l, hl, hc, ha⟩
 ·refine enter2 rfl ?_
  delta body_check_kind_row
  (and_intros)
  refine enter1 rfl ?_
  delta body_row_length
  (and_intros)
  refine inner_spec (ts := ts) (t := .M) ?_
  (and_intros)
  exact q
 ·have e1 : ¬ (i : Int) < 0 := Int.not_lt.mpr (Int.natCast_nonneg i)
  refine enter2 rfl ?_
  delta body_check_kind_row
  (and_intros)
  refine enter1 rfl ?_
  delta body_row_length
  (and_intros)
  refine inner_spec (ts := ts) (t := .T i) ?_
  (and_intros)
  exact q
 ·refine enter2 rfl ?_
  delta body_check_kind_row
  (and_intros)
  refine enter1 rfl ?_
  delta body_row_length
  (and_intros)
  refine inner_spec (ts := ts) (t := .a x) ?_
  (and_intros)
  refine wpF_le (n := 1) (Nat.le_add_left 1 _) (KR.row h h1 ?_)
  (and_intros)
  refine wpF_le (n := 2) (Nat.le_add_left 2 _) (may_stand_spec hk h h1 h2 ?_)
  (and_intros)
  exact q
 ·have e := rowV_mkC (ts := ts) (c := c) hl
  rw [subs_mkC hl, e] at loop
  rw [e]
  refine enter2 rfl ?_
  delta body_check_kind_row
  (and_intros)
  refine enter1 rfl ?_
  delta body_row_length
  (and_intros)
  rw [<- e]
  refine inner_spec (ts := ts) ?_
  rw [subs_mkC hl, e]
  (and_intros)
  refine loop fun y => ?_
  delta lk_check_kind_row_0
  (and_intros)
  refine check_named_spec hk h hc ha ?_
  (and_intros)
  exact q
end
open Classical in
noncomputable def addT (ts : List Tm) (t : Tm) : List Tm := if t ∈ ts then ts else ts ++ [t]
theorem addT_old {ts : List Tm} {t : Tm} (h : t ∈ ts) : addT ts t = ts := if_pos h
theorem addT_new {ts : List Tm} {t : Tm} (h : t ∉ ts) : addT ts t = ts ++ [t] := if_neg h
theorem KT.addT {ts : List Tm} (h : KT ts) {t : Tm} (hs : ∀ s ∈ t.subs, s ∈ ts) : KT (addT ts t) := by
 by_cases ht : t ∈ ts
 ·rw [addT_old ht]; exact h
 ·rw [addT_new ht]; exact h.add ht hs
theorem mem_addT {ts : List Tm} {t : Tm} : t ∈ addT ts t := by
 by_cases ht : t ∈ ts
 ·rw [addT_old ht]; exact ht
 ·rw [addT_new ht]; exact List.mem_append_right _ (.head _)
theorem addT_ext (ts : List Tm) (t : Tm) : ∃ e, addT ts t = ts ++ e /\ e.length ≤ 1 := by
 by_cases ht : t ∈ ts
 ·exact ⟨[], by rw [addT_old ht, List.append_nil], Nat.zero_le 1⟩
 ·exact ⟨[t], addT_new ht, Nat.le_refl 1⟩
noncomputable abbrev dF' (lv : Nat) (d : Nat) (s : Tm) : Nat := max d (s.dep + lv)
noncomputable abbrev wF' (w : Nat) (s : Tm) : Nat := w + s.wt
noncomputable abbrev oF' (o : Nat) (s : Tm) : Nat := if s.opn = 1 then 1 else o
theorem oF_0 (x : Tm) : oF' 0 x = x.opn := (opn_01 x).elim (fun e => (if_neg (by rw [e]; decide)).trans e.symm) fun e => (if_pos e).trans e.symm
theorem max_1 {a : Nat} : max 1 (a + 1) = a + 1 := Nat.max_eq_right (Nat.le_add_left 1 _)
theorem fold_mkC {c : Nat} : ∀ {l : List Tm}, l.length ≤ 2 -> l.foldl (dF' 1) 1 = (mkC c l).dep /\ l.foldl wF' 1 = (mkC c l).wt /\ l.foldl oF' 0 = (mkC c l).opn
 | [], _ => ⟨rfl, rfl, rfl⟩
 | [x], _ => ⟨max_1, rfl, oF_0 x⟩
 | [x, y], _ => ⟨(congrArg (max · _) max_1).trans (Nat.succ_max_succ _ _), rfl, congrArg (fun o => if y.opn = 1 then 1 else o) (oF_0 x)⟩
 | _ :: _ :: _ :: _, h => absurd h (by simp)
noncomputable abbrev putFr (K : KL) (ts : List Tm) (t : Tm) (d w o lv : Nat) (x : Option V) : Fr := [some (.loc K.kt), some (rowV ts t), some (.int (-1)), some (.int d), some (.int w), some (.int o), some (.int lv), x, none]
section
variable {K : KL} {ts : List Tm} {σ : St} {D : Facts} {n : Nat} {R : Post}
theorem put_for {t : Tm} {lv : Nat} {N : Nt} (h : Has σ (ktF K ts ++ D)) : ∀ (l : List Tm) (d w o : Nat) (x : Option V), (∀ s ∈ l, s ∈ ts) ->
  (∀ x, N (putFr K ts t (l.foldl (dF' lv) d) (l.foldl wF' w) (l.foldl oF' o) lv x) σ) ->
  forW (fun _ => True) false [7] (wpS (wpF n) R lb_KindTable_put_0) (l.map (posV ts)) N (putFr K ts t d w o lv x) σ := by
 have g0 : σ[K.kt]? = some (ktO K) := h.ix 0 rfl
 have g3 : σ[K.de]? = some (.list (ts.map fun t => V.int t.dep)) := h.ix 3 rfl
 have g4 : σ[K.we]? = some (.list (ts.map fun t => V.int t.wt)) := h.ix 4 rfl
 have g5 : σ[K.op]? = some (.list (ts.map fun t => V.int t.opn)) := h.ix 5 rfl
 intro l
 induction l with
 | nil => exact fun d w o x hs q => ⟨trivial, q x⟩
 | cons s l ih =>
  intro d w o x hs q
  have hp : ∀ (f : Tm -> V), (ts.map f)[pos ts s]? = some (f s) := fun f => by rw [List.getElem?_map, pos_get (hs s (.head _))]; rfl
  have e3 := hp fun t => .int t.dep
  have e4 := hp fun t => .int t.wt
  have e5 := hp fun t => .int t.opn
  clear hp
  have hl : ∀ s ∈ l, s ∈ ts := fun u hu => hs u (.tail _ hu)
  have tail : ∀ d' : Nat, dF' lv d s = d' -> wpS (wpF n) R (.aug 4 .Add (.idx (.attr (.lv 0) .weights) (.lv 7)) (.ite (.cmp .Eq (.idx (.attr (.lv 0) .opens) (.lv 7)) (.const (.int 1))) (.set 5 (.const (.int 1)) .nil) .nil .nil))
    (forW (fun _ => True) false [7] (wpS (wpF n) R lb_KindTable_put_0) (l.map (posV ts)) N) (putFr K ts t d' w o lv (some (posV ts s))) σ := by
   rintro d' rfl
   rcases opn_01 s with h0 | h1
   ·have key := ih (dF' lv d s) (wF' w s) o (some (posV ts s)) hl fun x => by
     have := q x
     rwa [List.foldl_cons, List.foldl_cons, List.foldl_cons, show oF' o s = o from if_neg (by rw [h0]; decide)] at this
    have z : ¬ (s.opn : Int) = 1 := fun e => absurd (Int.ofNat.inj e) (by rw [h0]; decide)
    (and_intros)
    exact key
   ·have key := ih (dF' lv d s) (wF' w s) 1 (some (posV ts s)) hl fun x => by
     have := q x
     rwa [List.foldl_cons, List.foldl_cons, List.foldl_cons, show oF' o s = 1 from if_pos h1] at this
    have z : (s.opn : Int) = 1 := by rw [h1]; rfl
    (and_intros)
    exact key
  refine ⟨trivial, ?_⟩
  delta lb_KindTable_put_0
  refine cut_ite fun W hW => ?_
  by_cases hc : d < s.dep + lv
  ·have z : (d : Int) < (s.dep : Int) + (lv : Int) := Int.ofNat_lt.mpr hc
   have T := tail (s.dep + lv) (Nat.max_eq_right (Nat.le_of_lt hc))
   (and_intros)
   exact hW _ _ T
  ·have z : ¬ (d : Int) < (s.dep : Int) + (lv : Int) := fun h => hc (Int.ofNat_lt.mp h)
   have T := tail d (Nat.max_eq_left (Nat.not_lt.mp hc))
   (and_intros)
   exact hW _ _ T
theorem put_end {t : Tm} {lv : Nat} {N : Nt} {x : Option V} (h : Sta σ (ktF K ts ++ D)) (hk : KT ts) (hl : ts.length + 1 ≤ 10000) (hn : t ∉ ts) (hs : ∀ s ∈ t.subs, s ∈ ts) (hdb : t.dep ≤ 24) (hwb : t.wt ≤ 4096)
  (q : ∀ σ', Upd (ktF K ts ++ D) (ktF K (ts ++ [t]) ++ D) σ σ' -> R (.int ts.length) σ') :
  wpS (wpF n) R lk_KindTable_put_0 N (putFr K ts t t.dep t.wt t.opn lv x) σ := by
 have lm : (ts.map (rowV ts)).length = ts.length := List.length_map _
 rw [<- lm] at q
 have U1 := h.setIx 1 (o' := .list (ts.map (rowV ts) ++ [rowV ts t])) rfl
 have U2 := U1.sta.setIx 2 (o' := .dict (kvOf ts ++ [(rowV ts t, .int (ts.map (rowV ts)).length)])) rfl
 have U3 := U2.sta.setIx 3 (o' := .list ((ts.map fun t => V.int t.dep) ++ [.int t.dep])) rfl
 have U4 := U3.sta.setIx 4 (o' := .list ((ts.map fun t => V.int t.wt) ++ [.int t.wt])) rfl
 have U5 := U4.sta.setIx 5 (o' := .list ((ts.map fun t => V.int t.opn) ++ [.int t.opn])) rfl
 have U := (((U1.trans U2).trans U3).trans U4).trans U5
 have eF : ktF K (ts ++ [t]) = [(K.kt, ktO K), (K.ro, .list (ts.map (rowV ts) ++ [rowV ts t])), (K.ix, .dict (kvOf ts ++ [(rowV ts t, .int (ts.map (rowV ts)).length)])), (K.de, .list ((ts.map fun t => V.int t.dep) ++ [.int t.dep])), (K.we, .list ((ts.map fun t => V.int t.wt) ++ [.int t.wt])), (K.op, .list ((ts.map fun t => V.int t.opn) ++ [.int t.opn]))] := by
  unfold ktF
  rw [rows_add hk hs, kvOf_add hk hn hs, <- lm, List.map_append, List.map_append, List.map_append]
  rfl
 have fin := q _ (by rw [eF]; exact U)
 clear U eF q
 have a0 : σ[K.kt]? = some (ktO K) := h.has.ix 0 rfl
 have a1 : σ[K.ro]? = some (.list (ts.map (rowV ts))) := h.has.ix 1 rfl
 have b0 := U1.has.ix 0 rfl
 have b2 := U1.has.ix 2 rfl
 have c0 := U2.has.ix 0 rfl
 have c3 := U2.has.ix 3 rfl
 have d0 := U3.has.ix 0 rfl
 have d4 := U3.has.ix 4 rfl
 have e0 := U4.has.ix 0 rfl
 have e5 := U4.has.ix 5 rfl
 have l1 : ∀ {α : Type} (f : Tm -> α), Nat.blt (ts.map f).length lim = true := fun f => by rw [List.length_map]; exact Nat.ble_eq_true_of_le (Nat.le_trans hl (by decide))
 have l2 := l1 (rowV ts)
 have l3 : Nat.blt (kvOf ts).length lim = true := l1 _
 have l4 := l1 fun t => V.int t.dep
 have l5 := l1 fun t => V.int t.wt
 have l6 := l1 fun t => V.int t.opn
 clear l1 U1 U2 U3 U4 U5
 have k1 := kvOf_ok ts t
 have k2 := dput_fresh (v := .int (ts.map (rowV ts)).length) (kvOf_none hk hn hs)
 have z1 : ¬ (24 : Int) < (t.dep : Int) := Int.not_lt.mpr (Int.ofNat_le.mpr hdb)
 have z2 : ¬ (4096 : Int) < (t.wt : Int) := Int.not_lt.mpr (Int.ofNat_le.mpr hwb)
 delta lk_KindTable_put_0
 (and_intros)
 exact fin
theorem put_spec {t : Tm} {Q : Post} (h : Sta σ (ktF K ts ++ D)) (hk : KT ts) (hl : ts.length + 1 ≤ 10000) (hp : t.putable ts) (hdb : t.dep ≤ 24) (hwb : t.wt ≤ 4096)
  (q : ∀ σ', Upd (ktF K ts ++ D) (ktF K (addT ts t) ++ D) σ σ' -> Q (posV (addT ts t) t) σ') :
  wpF (n + 6) .KindTable_put [.loc K.kt, rowV ts t] Q σ := by
 have hs : ∀ s ∈ t.subs, s ∈ ts := fun s h => (putable_sub hp s h).1
 have a0 : σ[K.kt]? = some (ktO K) := h.has.ix 0 rfl
 have a1 : σ[K.ro]? = some (.list (ts.map (rowV ts))) := h.has.ix 1 rfl
 have a2 : σ[K.ix]? = some (.dict (kvOf ts)) := h.has.ix 2 rfl
 have k1 := kvOf_ok ts t
 by_cases hn : t ∈ ts
 ·rw [addT_old hn] at q
  have e : (dget (kvOf ts) (rowV ts t)).getD (.int (-1)) = .int (pos ts t) := by rw [kvOf_get hk hn]; rfl
  have z : (0 : Int) ≤ (pos ts t : Int) := Int.natCast_nonneg _
  have fin := q σ h.refl
  refine enter2 rfl ?_
  delta body_KindTable_put
  (and_intros)
  exact fin
 ·rw [addT_new hn] at q
  unfold posV at q
  rw [pos_new hn] at q
  have e : (dget (kvOf ts) (rowV ts t)).getD (.int (-1)) = .int (-1) := by rw [dget_none (kvOf_none hk hn hs)]; rfl
  have loop : ∀ (lv o : Nat), t.subs.foldl (dF' lv) 1 = t.dep -> t.subs.foldl wF' 1 = t.wt -> t.subs.foldl oF' o = t.opn ->
    wpF (n + 5) .inner_kinds [rowV ts t] (fun v σ1 => ForW [7] false (wpS (wpF (n + 5)) Q lb_KindTable_put_0) (wpS (wpF (n + 5)) Q lk_KindTable_put_0 fun _ σ' => Q .none σ') (putFr K ts t 1 1 o lv none) σ1 [v]) σ := fun lv o h1 h2 h3 =>
   inner_spec (n := n + 4) (.mk (.tup _) (put_for h.has _ _ _ _ _ hs fun x => by rw [h1, h2, h3]; exact put_end h hk hl hn hs hdb hwb q))
  refine enter2 rfl ?_
  delta body_KindTable_put
  (and_intros)
  refine check_row_spec hk ⟨a0, a1⟩ hp ?_
  rcases putV hp with _ | i | ⟨x, h1, h2⟩ | ⟨c, l, hl2, hc, ha⟩
  ·(and_intros)
   refine enter1 rfl ?_
   delta body_row_level
   (and_intros)
   exact loop 0 1 rfl rfl rfl
  ·(and_intros)
   refine enter1 rfl ?_
   delta body_row_level
   (and_intros)
   exact loop 0 1 rfl rfl rfl
  ·(and_intros)
   refine enter1 rfl ?_
   delta body_row_level
   (and_intros)
   exact loop 1 0 max_1 rfl (oF_0 x)
  ·have key := loop 1 0
   unfold putFr at key
   rw [rowV_mkC hl2] at key ⊢
   (and_intros)
   refine enter1 rfl ?_
   delta body_row_level
   (and_intros)
   rw [subs_mkC hl2] at key
   exact key (fold_mkC hl2).1 (fold_mkC hl2).2.1 (fold_mkC hl2).2.2
end
noncomputable def Tm.sub (f : Nat -> Nat) : Tm -> Tm
 | .p k => .p k
 | .M => .M
 | .T i => .T i
 | .a t => .a (t.sub f)
 | .c0 c => .c0 (f c)
 | .c1 c x => .c1 (f c) (x.sub f)
 | .c2 c x y => .c2 (f c) (x.sub f) (y.sub f)
theorem sub_mkC {f : Nat -> Nat} {c : Nat} : ∀ {l : List Tm}, l.length ≤ 2 -> (mkC c l).sub f = mkC (f c) (l.map (Tm.sub f))
 | [], _ => rfl
 | [_], _ => rfl
 | [_, _], _ => rfl
 | _ :: _ :: _ :: _, h => absurd h (by simp)
noncomputable def WB : Nat -> Nat
 | 0 => 1
 | m + 1 => 2 * WB m + 1
theorem WB_pos : ∀ m, 1 ≤ WB m
 | 0 => Nat.le_refl 1
 | _ + 1 => Nat.le_add_left 1 _
theorem sub_bd {f : Nat -> Nat} {nt : Nat} : ∀ (t : Tm) {m : Nat}, t.ok nt m -> (t.sub f).dep ≤ m + 1 /\ (t.sub f).wt ≤ WB m
 | .p _, m, _ => ⟨Nat.le_add_left 1 m, WB_pos m⟩
 | .M, m, _ => ⟨Nat.le_add_left 1 m, WB_pos m⟩
 | .T _, m, _ => ⟨Nat.le_add_left 1 m, WB_pos m⟩
 | .c0 _, m, _ => ⟨Nat.le_add_left 1 m, WB_pos m⟩
 | .a t, 0, h => h.elim
 | .a t, m + 1, h => ⟨Nat.succ_le_succ (sub_bd t h).1, Nat.le_trans (Nat.le_of_eq (Nat.add_comm _ _)) (Nat.succ_le_succ (Nat.le_trans (sub_bd t h).2 (Nat.le_mul_of_pos_left _ (by decide))))⟩
 | .c1 _ t, 0, h => h.elim
 | .c1 _ t, m + 1, h => ⟨Nat.succ_le_succ (sub_bd t h.2).1, Nat.le_trans (Nat.le_of_eq (Nat.add_comm _ _)) (Nat.succ_le_succ (Nat.le_trans (sub_bd t h.2).2 (Nat.le_mul_of_pos_left _ (by decide))))⟩
 | .c2 _ x y, 0, h => h.elim
 | .c2 _ x y, m + 1, h => ⟨Nat.succ_le_succ (Nat.max_le.mpr ⟨(sub_bd x h.2.1).1, (sub_bd y h.2.2).1⟩), by
   rw [WB, Nat.two_mul, Nat.add_comm]
   show 1 + (x.sub f).wt + (y.sub f).wt ≤ _
   rw [Nat.add_assoc]
   exact Nat.add_le_add_left (Nat.add_le_add (sub_bd x h.2.1).2 (sub_bd y h.2.2).2) 1⟩
theorem std_sub {nt m : Nat} {t : Tm} {f : Nat -> Nat} (h : t.ok nt m) : (t.sub f).std := by
 cases t with
 | p k =>
  have : 7 ≤ k /\ k ≤ 13 := by cases m <;> exact h
  exact ⟨fun e => absurd this.1 (by injection e with e; rw [e]; decide), fun e => absurd this.2 (by injection e with e; rw [e]; decide)⟩
 | _ => exact ⟨nofun, nofun⟩
def Gro (ts ts' : List Tm) (w : Nat) : Prop := ∃ e, ts' = ts ++ e /\ e.length ≤ w
section
variable {ts ts' ts'' : List Tm} {w v : Nat} {t : Tm}
theorem Gro.refl : Gro ts ts w := ⟨[], (List.append_nil _).symm, Nat.zero_le _⟩
theorem Gro.trans (a : Gro ts ts' w) (b : Gro ts' ts'' v) : Gro ts ts'' (w + v) := ex1 a fun e h => ex1 b fun d g => ⟨e ++ d, by rw [g.1, h.1, List.append_assoc], by rw [List.length_append]; exact Nat.add_le_add h.2 g.2⟩
theorem Gro.le (a : Gro ts ts' w) (h : w ≤ v) : Gro ts ts' v := ex1 a fun e g => ⟨e, g.1, Nat.le_trans g.2 h⟩
theorem Gro.mem (a : Gro ts ts' w) (h : t ∈ ts) : t ∈ ts' := ex1 a fun e g => g.1 ▸ List.mem_append_left _ h
theorem Gro.pos (a : Gro ts ts' w) (h : t ∈ ts) : posV ts' t = posV ts t := ex1 a fun e g => by rw [g.1]; exact posV_app h
theorem Gro.len (a : Gro ts ts' w) : ts'.length ≤ ts.length + w := ex1 a fun e g => by rw [g.1, List.length_append]; exact Nat.add_le_add_left g.2 _
theorem Gro.lim (a : Gro ts ts' w) {n : Nat} (h : ts.length + (w + v) ≤ n) : ts'.length + v ≤ n := Nat.le_trans (Nat.add_le_add_right a.len v) (Nat.le_trans (Nat.le_of_eq (Nat.add_assoc _ _ _)) h)
end
structure TD (D : Facts) (ti nt : Nat) (f : Nat -> Nat) : Prop where
 ex : ∃ td, (ti, O.dict td) ∈ D /\ (∀ e ∈ td, kd e.1 = 1) /\ ∀ c, vc nt c -> dget td (.int c) = some (.int (f c)) /\ 21 ≤ f c
section
variable {K : KL} {D : Facts} {ti nt : Nat} {f : Nat -> Nat}
def KindQ (K : KL) (D : Facts) (ts : List Tm) (σ : St) (t : Tm) (w : Nat) (Q : Post) : Prop :=
 ∀ ts' σ', KT ts' -> Gro ts ts' w -> t ∈ ts' -> Upd (ktF K ts ++ D) (ktF K ts' ++ D) σ σ' -> Q (posV ts' t) σ'
theorem KindQ.le {ts : List Tm} {σ : St} {Q : Post} {t : Tm} {w w' : Nat} (h : w ≤ w') (q : KindQ K D ts σ t w' Q) : KindQ K D ts σ t w Q := fun ts' σ' a e d u => q ts' σ' a (e.le h) d u
theorem put1_spec {N : Nat} {ts : List Tm} {σ : St} {Q : Post} {t : Tm} (h : Sta σ (ktF K ts ++ D)) (hk : KT ts) (hl : ts.length + 1 ≤ 9990) (hp : t.putable ts) (hb : t.dep ≤ 24 /\ t.wt ≤ 4096) (q : KindQ K D ts σ t 1 Q) : wpF (N + 6) .KindTable_put [.loc K.kt, rowV ts t] Q σ :=
 put_spec h hk (Nat.le_trans hl (by decide)) hp hb.1 hb.2 fun σ' U => q _ σ' (hk.addT fun s hs => (putable_sub hp s hs).1) (addT_ext _ _) mem_addT U
theorem mkC_bd {c : Nat} : ∀ {l : List Tm}, (∀ t ∈ l, t.dep ≤ 20 /\ t.wt ≤ 2000) -> (mkC c l).dep ≤ 24 /\ (mkC c l).wt ≤ 4096
 | [], _ => ⟨Nat.le_add_left 1 23, Nat.le_add_left 1 4095⟩
 | [x], h => ⟨Nat.succ_le_succ (Nat.le_trans (h x (.head _)).1 (by decide)), Nat.le_trans (Nat.add_le_add_left (h x (.head _)).2 1) (by decide)⟩
 | [x, y], h => ⟨Nat.succ_le_succ (Nat.max_le.mpr ⟨Nat.le_trans (h x (.head _)).1 (by decide), Nat.le_trans (h y (.tail _ (.head _))).1 (by decide)⟩), Nat.le_trans (Nat.add_le_add (Nat.add_le_add_left (h x (.head _)).2 1) (h y (.tail _ (.head _))).2) (by decide)⟩
 | _ :: _ :: _ :: _, _ => ⟨Nat.le_add_left 1 23, Nat.le_add_left 1 4095⟩
theorem class_kind_spec {N : Nat} {ts : List Tm} {σ : St} {Q : Post} {c : Nat} {l : List Tm} (h : Sta σ (ktF K ts ++ D)) (hk : KT ts) (hl : ts.length + 1 ≤ 9990) (hc : 21 ≤ c) (hl2 : l.length ≤ 2) (hm : ∀ t ∈ l, (t ∈ ts /\ t.std) /\ t.dep ≤ 20 /\ t.wt ≤ 2000)
  (q : KindQ K D ts σ (mkC c l) 1 Q) : wpF (N + 7) .class_kind [.loc K.kt, .int c, .tup (l.map (posV ts))] Q σ := by
 have key := put1_spec (N := N) h hk hl (put_mkC hc fun t ht => (hm t ht).1) (mkC_bd fun t ht => (hm t ht).2) q
 rw [rowV_mkC hl2] at key
 have g0 : σ[K.kt]? = some (ktO K) := h.has.ix 0 rfl
 have e2 : (tget Tb.TID_PRIM.rows (c : Int)).isSome = false := by rw [tid_none hc]; rfl
 refine enter3 rfl ?_
 delta body_class_kind
 (and_intros)
theorem kinds_row {elt : List V -> Post -> St -> Prop} {w : Nat} : ∀ (l : List Tm) {acc : List V} {ts : List Tm} {σ : St} {Q : List V -> St -> Prop}, Sta σ (ktF K ts ++ D) -> KT ts -> ts.length + l.length * w ≤ 9990 ->
  (∀ t ∈ l, ∀ (ts1 : List Tm) (σ1 : St) (Q1 : Post), Sta σ1 (ktF K ts1 ++ D) -> KT ts1 -> ts1.length + w ≤ 9990 -> KindQ K D ts1 σ1 (t.sub f) w Q1 -> elt [t.enc] Q1 σ1) ->
  (∀ ts' σ', KT ts' -> Gro ts ts' (l.length * w) -> (∀ t ∈ l, t.sub f ∈ ts') -> Upd (ktF K ts ++ D) (ktF K ts' ++ D) σ σ' -> Q (acc ++ l.map fun t => posV ts' (t.sub f)) σ') ->
  compW (fun _ => True) (tgt 0) (fun _ Q σ => Q (.bool true) σ) elt (l.map Tm.enc) acc Q σ
 | [], acc, ts, σ, Q, h, hk, hl, step, q => ⟨trivial, by have := q ts σ hk .refl nofun h.refl; rwa [List.map_nil, List.append_nil] at this⟩
 | t :: l, acc, ts, σ, Q, h, hk, hl, step, q => ⟨trivial, [t.enc], rfl, .tt (step t (.head _) ts σ _ h hk (Nat.le_trans (Nat.add_le_add_left (Nat.le_mul_of_pos_left w (Nat.succ_pos _)) _) hl) fun ts1 σ1 hk1 g1 hm1 U1 => by
   have e : (t :: l).length * w = w + l.length * w := (Nat.succ_mul _ _).trans (Nat.add_comm _ _)
   rw [e] at hl q
   refine kinds_row l U1.sta hk1 (g1.lim hl) (fun t ht => step t (.tail _ ht)) fun ts2 σ2 hk2 g2 hm2 U2 => ?_
   have key := q ts2 σ2 hk2 (g1.trans g2) (List.forall_mem_cons.mpr ⟨g2.mem hm1, hm2⟩) (U1.trans U2)
   rwa [List.map_cons, g2.pos hm1, <- List.singleton_append, <- List.append_assoc] at key)⟩
def KindS (K : KL) (D : Facts) (ti nt : Nat) (f : Nat -> Nat) (m : Nat) : Prop := ∀ {ts : List Tm} {σ : St} {Q : Post} {τ : Tm}, Sta σ (ktF K ts ++ D) -> KT ts -> ts.length + WB m ≤ 9990 -> τ.ok nt m -> KindQ K D ts σ (τ.sub f) (WB m) Q -> wpF (m + 8) .law_kind [.loc K.kt, .loc ti, τ.enc] Q σ
theorem kind_class {N w : Nat} {ts : List Tm} {σ : St} {Q : Post} {c : Nat} {l : List Tm} (hD : TD D ti nt f) (h : Sta σ (ktF K ts ++ D)) (hk : KT ts) (hl : ts.length + (2 * w + 1) ≤ 9990) (hc : vc nt c) (hl2 : l.length ≤ 2) (ok : ∀ t ∈ l, (t.sub f).std /\ (t.sub f).dep ≤ 20 /\ (t.sub f).wt ≤ 2000)
  (step : ∀ t ∈ l, ∀ (ts1 : List Tm) (σ1 : St) (Q1 : Post), Sta σ1 (ktF K ts1 ++ D) -> KT ts1 -> ts1.length + w ≤ 9990 -> KindQ K D ts1 σ1 (t.sub f) w Q1 -> wpF (N + 7) .law_kind [.loc K.kt, .loc ti, t.enc] Q1 σ1)
  (q : KindQ K D ts σ ((mkC c l).sub f) (2 * w + 1) Q) : wpF (N + 8) .law_kind [.loc K.kt, .loc ti, (mkC c l).enc] Q σ := by
 refine ex1 hD.ex fun td htd => ?_
 have g1 : σ[ti]? = some (.dict td) := h.has _ (List.mem_append_right _ htd.1)
 have hf := htd.2.2 c hc
 have hf1 := hf.1
 have kk : keyOk td (.int c) := ko_mk Nat.one_ne_zero htd.2.1
 have l1 : Nat.ble (l.map Tm.enc).length lim = true := by rw [List.length_map]; exact lim_of (Nat.le_trans hl2 (by decide))
 have hT : l.length * w ≤ 2 * w := Nat.mul_le_mul_right _ hl2
 rw [sub_mkC hl2] at q
 rw [enc_mkC hl2]
 refine enter3 rfl ?_
 delta body_law_kind
 (and_intros)
 refine kinds_row (f := f) l h hk (Nat.le_trans (Nat.add_le_add_left (Nat.le_succ_of_le hT) _) hl) (fun t ht ts1 σ1 Q1 h1 hk1 hl1 q1 => ?_) fun ts' σ' hk' g' hmem hU => ?_
 ·delta ce_law_kind_0
  (and_intros)
  exact step t ht ts1 σ1 Q1 h1 hk1 hl1 q1
 ·(and_intros)
  have U2 := hU.trans (hU.sta.grow [O.list ([] ++ l.map fun t => posV ts' (t.sub f))])
  have key := class_kind_spec (N := N) (c := f c) (l := l.map (Tm.sub f)) (Q := Q) U2.sta hk' ((g'.le hT).lim hl) hf.2 (by rw [List.length_map]; exact hl2) (fun t ht => ?_) fun ts2 σ2 hk2 g2 hm2 u => q ts2 σ2 hk2 ((g'.le hT).trans g2) hm2 (U2.trans u)
  ·rw [List.map_map] at key
   exact key
  ·obtain ⟨u, hu, rfl⟩ := List.mem_map.mp ht
   exact ⟨⟨hmem u hu, (ok u hu).1⟩, (ok u hu).2⟩
theorem WB_le {m : Nat} (h : m ≤ 6) : WB m ≤ 127 := (by decide : ∀ m ≤ 6, WB m ≤ 127) m h
theorem kind_leaf {N m : Nat} (hD : TD D ti nt f) {ts : List Tm} {σ : St} {Q : Post} {τ : Tm} (h : Sta σ (ktF K ts ++ D)) (hk : KT ts) (hl : ts.length + 1 ≤ 9990) (ok : τ.ok nt m) (hs : τ.subs = []) (q : KindQ K D ts σ (τ.sub f) 1 Q) : wpF (N + 8) .law_kind [.loc K.kt, .loc ti, τ.enc] Q σ := by
 have g0 : σ[K.kt]? = some (ktO K) := h.has.ix 0 rfl
 cases τ with
 | p k =>
  have hk2 : 7 ≤ k /\ k ≤ 13 := by cases m <;> exact ok
  have hp := hk.p (k := k) (Nat.lt_of_le_of_lt hk2.2 (by decide))
  have key : Q (.int (pos ts (.p k))) σ := q ts σ hk .refl hp.1 h.refl
  rw [hp.2] at key
  refine enter3 rfl ?_
  delta body_law_kind
  (and_intros)
 | M =>
  have key := put1_spec (N := N) h hk hl (show Tm.M.putable ts from trivial) ⟨by decide, by decide⟩ q
  refine enter3 rfl ?_
  delta body_law_kind
  (and_intros)
  refine enter2 rfl ?_
  delta body_mvar_kind
  (and_intros)
  exact key
 | T i =>
  have key := put1_spec (N := N) h hk hl (show (Tm.T i).putable ts from trivial) ⟨Nat.le_add_left 1 23, Nat.le_add_left 1 4095⟩ q
  refine enter3 rfl ?_
  delta body_law_kind
  (and_intros)
  refine enter2 rfl ?_
  delta body_var_kind
  (and_intros)
  exact key
 | c0 c => exact kind_class (l := []) (w := 0) hD h hk hl (by cases m <;> exact ok) (Nat.zero_le 2) nofun nofun q
 | a t => cases hs
 | c1 c x => cases hs
 | c2 c x y => cases hs
theorem kind_spec (hD : TD D ti nt f) : ∀ m, m ≤ 6 -> KindS K D ti nt f m := by
 intro m
 induction m with
 | zero =>
  intro _ ts σ Q τ h hk hl ok q
  exact kind_leaf hD h hk hl ok (by cases τ <;> first | rfl | exact ok.elim) q
 | succ m ih =>
  intro hm
  have ih : KindS K D ti nt f m := ih (Nat.le_of_succ_le hm)
  have cls : ∀ {ts : List Tm} {σ : St} {Q : Post} {c : Nat} {l : List Tm}, Sta σ (ktF K ts ++ D) -> KT ts -> ts.length + WB (m + 1) ≤ 9990 -> vc nt c -> l.length ≤ 2 -> (∀ t ∈ l, t.ok nt m) -> KindQ K D ts σ ((mkC c l).sub f) (WB (m + 1)) Q -> wpF (m + 1 + 8) .law_kind [.loc K.kt, .loc ti, (mkC c l).enc] Q σ :=
   fun {ts σ Q c l} h hk hl hc hl2 ok q => kind_class (N := m + 1) (w := WB m) hD h hk hl hc hl2 (fun t ht => ⟨std_sub (ok t ht), Nat.le_trans (sub_bd t (ok t ht)).1 (Nat.le_trans hm (by decide)), Nat.le_trans (sub_bd t (ok t ht)).2 (Nat.le_trans (WB_le (Nat.le_of_succ_le hm)) (by decide))⟩)
    (fun t ht ts1 σ1 Q1 h1 hk1 hl1 q1 => ih h1 hk1 hl1 (ok t ht) q1) q
  intro ts σ Q τ h hk hl ok q
  have hl1 : ts.length + 1 ≤ 9990 := Nat.le_trans (Nat.add_le_add_left (WB_pos _) _) hl
  cases τ with
  | c1 c x => exact cls (l := [x]) h hk hl ok.1 (Nat.le_add_left 1 1) (List.forall_mem_cons.mpr ⟨ok.2, nofun⟩) q
  | c2 c x y => exact cls (l := [x, y]) h hk hl ok.1 (Nat.le_refl 2) (List.forall_mem_cons.mpr ⟨ok.2.1, List.forall_mem_cons.mpr ⟨ok.2.2, nofun⟩⟩) q
  | a t =>
   have b := sub_bd (f := f) t (m := m) ok
   refine enter3 rfl ?_
   delta body_law_kind
   (and_intros)
   refine ih h hk (Nat.le_trans (Nat.add_le_add_left (Nat.le_succ_of_le (Nat.le_mul_of_pos_left _ (by decide))) _) hl) (τ := t) ok fun ts' σ' hk' g' hmem hU => ?_
   have key := put1_spec (N := m + 1) (Q := Q) (t := .a (t.sub f)) hU.sta hk' ((g'.le (Nat.le_mul_of_pos_left _ (by decide))).lim hl) ⟨hmem, std_sub (m := m) ok⟩ ⟨Nat.succ_le_succ (Nat.le_trans b.1 (Nat.le_trans hm (by decide))), Nat.le_trans (Nat.add_le_add_left (Nat.le_trans b.2 (WB_le (Nat.le_of_succ_le hm))) 1) (by decide)⟩ fun ts2 σ2 hk2 g2 hm2 u => q ts2 σ2 hk2 ((g'.le (Nat.le_mul_of_pos_left _ (by decide))).trans g2) hm2 (hU.trans u)
   have g0 : σ'[K.kt]? = some (ktO K) := hU.has.ix 0 rfl
   (and_intros)
   refine enter2 rfl ?_
   delta body_array_kind
   (and_intros)
   exact key
  | p k => exact kind_leaf hD h hk hl1 ok rfl (q.le (WB_pos _))
  | M => exact kind_leaf hD h hk hl1 ok rfl (q.le (WB_pos _))
  | T i => exact kind_leaf hD h hk hl1 ok rfl (q.le (WB_pos _))
  | c0 c => exact kind_leaf hD h hk hl1 ok rfl (q.le (WB_pos _))
end
theorem dget_dput {k v k' : V} : ∀ (kv : List (V × V)), k = k' /\ dget (dput kv k v) k' = some v ∨ k ≠ k' /\ dget (dput kv k v) k' = dget kv k'
 | [] => (Classical.em (k = k')).imp (fun h => ⟨h, if_pos h⟩) fun h => ⟨h, if_neg h⟩
 | (a, b) :: r => by
  by_cases h : a = k
  ·subst h
   rw [dp_hd]
   exact (Classical.em (a = k')).imp (fun h => ⟨h, if_pos h⟩) fun h => ⟨h, (if_neg h).trans (if_neg h).symm⟩
  ·rw [dp_tl h rfl]
   by_cases h' : a = k'
   ·subst h'; exact .inr ⟨fun z => h z.symm, dg_hd.trans dg_hd.symm⟩
   ·rw [dg_tl h' rfl, dg_tl h' rfl]; exact dget_dput r
theorem dget_put {k v : V} {kv : List (V × V)} : dget (dput kv k v) k = some v := (dget_dput kv).elim (·.2) fun h => absurd rfl h.1
theorem dget_put_ne {k v k' : V} {kv : List (V × V)} (h : k ≠ k') : dget (dput kv k v) k' = dget kv k' := (dget_dput kv).elim (fun g => absurd g.1 h) (·.2)
theorem dput_keys {k v : V} {p : V -> Prop} (hk : p k) : ∀ {kv : List (V × V)}, (∀ e ∈ kv, p e.1) -> ∀ e ∈ dput kv k v, p e.1
 | [], _ => List.forall_mem_cons.mpr ⟨hk, nofun⟩
 | (a, b) :: r, h => by
  by_cases z : a = k
  ·subst z; rw [dp_hd]; exact List.forall_mem_cons.mpr ⟨hk, (List.forall_mem_cons.mp h).2⟩
  ·rw [dp_tl z rfl]; exact List.forall_mem_cons.mpr ⟨(List.forall_mem_cons.mp h).1, dput_keys hk (List.forall_mem_cons.mp h).2⟩
theorem dput_len {k v : V} : ∀ (kv : List (V × V)), (dput kv k v).length ≤ kv.length + 1
 | [] => Nat.le_refl 1
 | (a, b) :: r => by
  by_cases z : a = k
  ·subst z; rw [dp_hd]; exact Nat.le_succ _
  ·rw [dp_tl z rfl]; exact Nat.succ_le_succ (dput_len r)
noncomputable def mkF : Nat -> St -> Facts
 | _, [] => []
 | n, o :: os => (n, o) :: mkF (n + 1) os
theorem Sta.pushF : ∀ (os : St) {σ : St} {fs : Facts}, Sta σ fs -> Upd fs (fs ++ mkF σ.length os) σ (σ ++ os)
 | [], σ, fs, h => by rw [mkF, List.append_nil, List.append_nil]; exact h.refl
 | o :: os, σ, fs, h => by
  have U := h.pushR (o := o)
  have U2 := Sta.pushF os U.sta
  have := U.trans U2
  rwa [List.append_assoc, List.append_assoc, List.length_append] at this
structure TyR where
 y : Nat
 name : String
 cnt : Nat
 asm : Nat
noncomputable def prm : Nat -> List V
 | 0 => []
 | 1 => [.str "T"]
 | _ => [.str "T", .str "U"]
noncomputable def zer (n : Nat) : List V := List.replicate n (.int 0)
noncomputable def bnd (n : Nat) : List V := List.replicate n (.tup [.int 0, .tup []])
noncomputable def tyFs (y tid : Nat) (name : String) (asm : Nat) : List (At × V) := [(.tid, .int tid), (.name, .str name), (.sort, .int 1), (.flags, .int 0), (.base, .int 12), (.ifaces, .loc (y + 1)), (.params, .loc (y + 2)), (.variances, .loc (y + 3)), (.bounds, .loc (y + 4)), (.fields, .loc (y + 5)), (.methods, .loc (y + 6)), (.asm, .int asm), (.cctor, .int 0), (.under, .int (-1)), (.impls, .loc (y + 7)), (.props, .loc (y + 8)), (.events, .loc (y + 9)), (.finaliser, .int 0), (.home, .int 0)]
noncomputable def tyO (y tid : Nat) (name : String) (cnt asm : Nat) (ms : List Nat) : St := [.inst .TypeDef (tyFs y tid name asm), .list [], .list (prm cnt), .list (zer cnt), .list (bnd cnt), .list [], .list (ms.map fun (m : Nat) => V.int m), .list [], .list [], .list []]
noncomputable def tyF (tid : Nat) (t : TyR) (ms : List Nat) : Facts := mkF t.y (tyO t.y tid t.name t.cnt t.asm ms)
theorem lt3 {c : Nat} (h : c ≤ 2) : c = 0 ∨ c = 1 ∨ c = 2 := (ltS (Nat.lt_succ_of_le h)).elim (fun h => (ltS h).elim (fun h => .inl (Nat.lt_one_iff.mp h)) fun h => .inr (.inl h)) fun h => .inr (.inr h)
theorem prm_len {c : Nat} (h : c ≤ 2) : (prm c).length = c := by
 rcases lt3 h with rfl | rfl | rfl <;> rfl
noncomputable abbrev tyF9 (y tid : Nat) (name : String) : List (At × V) := [(.tid, .int tid), (.name, .str name), (.sort, .int 1), (.flags, .int 0), (.base, .int 12), (.ifaces, .loc (y + 1)), (.params, .loc (y + 2)), (.variances, .loc (y + 3)), (.bounds, .loc (y + 4))]
noncomputable abbrev tyFr (y tid pl asm : Nat) (name : String) (x : Option V) : Fr := [some (.loc y), some (.int tid), some (.str name), some (.int 1), some (.int 0), some (.int 12), some (.loc pl), some (.int asm), x]
noncomputable abbrev tyH (y tid : Nat) (name : String) (ps : List V) : St := [.inst .TypeDef (tyF9 y tid name), .list [], .list ps, .list (zer ps.length), .list (bnd ps.length)]
theorem rep_snoc {α : Type} {n : Nat} {a : α} : List.replicate (n + 1) a = List.replicate n a ++ [a] := List.replicate_succ'
theorem ty_loop {N : Nat} {σ : St} {R : Post} {M : Nt} {tid asm pl : Nat} {name : String} {L : List V} (hp : σ[pl]? = some (.list L)) : ∀ (ps ds : List V) (x : Option V), ds.length + ps.length ≤ 9 -> (∀ x, M (tyFr σ.length tid pl asm name x) (σ ++ tyH σ.length tid name (ds ++ ps))) ->
  forW (fun σ' => live σ' L (some pl)) false [8] (wpS (wpF N) R lb_TypeDef_init_0) ps M (tyFr σ.length tid pl asm name x) (σ ++ tyH σ.length tid name ds)
 | [], ds, x, hl, q => ⟨lk_app hp, by have := q x; rwa [List.append_nil] at this⟩
 | p :: ps, ds, x, hl, q => ⟨lk_app hp, by
   have hl' : (ds ++ [p]).length + ps.length ≤ 9 := by rw [List.length_append, Nat.add_assoc, List.length_singleton, Nat.add_comm 1]; exact hl
   have ih := ty_loop (N := N) (R := R) (M := M) (asm := asm) (tid := tid) (name := name) hp ps (ds ++ [p]) (some p) hl' fun x => by rw [List.append_assoc]; exact q x
   have l1 : Nat.blt ds.length lim = true := lim_of (Nat.le_trans (Nat.succ_le_of_lt (Nat.lt_of_lt_of_le (Nat.lt_add_of_pos_right (Nat.succ_pos _)) hl)) (by decide))
   have l2 : Nat.blt (zer ds.length).length lim = true := by unfold zer; rw [List.length_replicate]; exact l1
   have l3 : Nat.blt (bnd ds.length).length lim = true := by unfold bnd; rw [List.length_replicate]; exact l1
   unfold tyH zer bnd at ih
   rw [List.length_append, List.length_singleton, rep_snoc, rep_snoc] at ih
   delta lb_TypeDef_init_0
   (sizeOf_list_dec)
   exact ih⟩
set_option maxHeartbeats 4000000 in
theorem typedef_spec {N : Nat} {σ : St} {Q : Post} {tid cnt asm pl : Nat} {name : String} (hc : cnt ≤ 2) (hp : σ[pl]? = some (.list (prm cnt))) (q : Q .none (σ ++ tyO σ.length tid name cnt asm [])) :
  wpF (N + 1) .TypeDef_init [.loc σ.length, .int tid, .str name, .int 1, .int 0, .int 12, .loc pl, .int asm] Q (σ ++ [.inst .TypeDef []]) := by
 have fin : ∀ x, wpS (wpF N) Q lk_TypeDef_init_0 (fun _ σ' => Q .none σ') (tyFr σ.length tid pl asm name x) (σ ++ tyH σ.length tid name (prm cnt)) := by
  intro x
  unfold tyH
  rw [prm_len hc]
  delta lk_TypeDef_init_0
  (sizeOf_list_dec)
  refine hp_eq (P := fun s => Q .none s) q ?_
  kernel_rfl
 have loop := ty_loop (N := N) (R := Q) (asm := asm) (tid := tid) (name := name) hp (prm cnt) [] none (by rw [prm_len hc]; exact Nat.le_trans (Nat.add_le_add_left hc 0) (by decide)) fin
 refine enter8 rfl ?_
 delta body_TypeDef_init
 (sizeOf_list_dec)
 refine hp_eq (P := fun s => forW (fun σ' => live σ' (prm cnt) (some pl)) false [8] (wpS (wpF N) Q lb_TypeDef_init_0) (prm cnt) (wpS (wpF N) Q lk_TypeDef_init_0 (fun _ σ' => Q .none σ')) (tyFr σ.length tid pl asm name none) s) loop ?_
 kernel_rfl
noncomputable def meFs (mid owner ngen g h ret : Nat) (body : V) : List (At × V) := [(.mid, .int mid), (.owner, .int owner), (.name, .str "g"), (.access, .int 6), (.flags, .int 0), (.ngen, .int ngen), (.gnames, .loc g), (.gbounds, .loc h), (.ret, .int ret), (.params, .tup []), (.pnames, .tup []), (.pflags, .tup []), (.body, body), (.native, .int 0)]
noncomputable def meO0 (y mid owner ret : Nat) : St := [.inst .MethodDef (meFs mid owner 0 (y + 1) (y + 2) ret .none), .list [], .list [], .list []]
set_option maxHeartbeats 4000000 in
theorem methoddef_spec {N : Nat} {σ : St} {Q : Post} {mid owner ret : Nat} (q : Q .none (σ ++ meO0 σ.length mid owner ret)) :
  wpF (N + 2) .MethodDef_init [.loc σ.length, .int mid, .int owner, .str "g", .int 6, .int 0, .int ret, .tup []] Q (σ ++ [.inst .MethodDef []]) := by
 refine enter8 rfl ?_
 delta body_MethodDef_init
 (sizeOf_list_dec)
 refine enter1 rfl ?_
 delta body_plain_names
 refine ls_fr ?_
 (sizeOf_list_dec)
 refine hp_eq (P := fun s => Q .none s) q ?_
 kernel_rfl
structure WL where
 K : KL
 s : Nat
 ti : Nat
 mi : Nat
 st : Nat
 ty : Nat
 fl : Nat
 me : Nat
 nm : Nat
 am : Nat
structure Sv where
 ts : List Tm
 tyl : List (Option TyR)
 mel : List V
 nm : List (V × V)
 am : List String
 td : List (V × V)
 md : List (V × V)
noncomputable def tyV : Option TyR -> V
 | none => .none
 | some t => .loc t.y
noncomputable abbrev stO (W : WL) : O := .inst .Store [(.kt, .loc W.K.kt), (.types', .loc W.ty), (.fields_, .loc W.fl), (.methods, .loc W.me), (.names, .loc W.nm), (.asms, .loc W.am), (.entry, .int 0)]
noncomputable abbrev sO (W : WL) : O := .dict [(.str "store", .loc W.st), (.str "tids", .loc W.ti), (.str "mids", .loc W.mi)]
noncomputable def trF (W : WL) (S : Sv) : Facts := [(W.s, sO W), (W.ti, .dict S.td), (W.mi, .dict S.md), (W.st, stO W), (W.ty, .list (S.tyl.map tyV)), (W.me, .list S.mel), (W.nm, .dict S.nm), (W.am, .list (S.am.map V.str))]
noncomputable def gF (W : WL) (S : Sv) (L : Facts) : Facts := ktF W.K S.ts ++ (trF W S ++ L)
structure Sok (S : Sv) (n : Nat) : Prop where
 kt : KT S.ts
 tyl : S.tyl.length ≤ n
 mel : S.mel.length ≤ n
 nml : S.nm.length ≤ n
 nmk : ∀ e ∈ S.nm, kd e.1 = 3
 am : S.am.length ≤ n
 tdl : S.td.length ≤ n
 tdk : ∀ e ∈ S.td, kd e.1 = 1
 mdl : S.md.length ≤ n
 mdk : ∀ e ∈ S.md, kd e.1 = 3
 tsl : S.ts.length ≤ n
theorem key3 {kv : List (V × V)} (h : ∀ e ∈ kv, kd e.1 = 3) {k : V} (hk : kd k = 3) : keyOk kv k := ko_mk (by rw [hk]; decide) fun e he => (h e he).trans hk.symm
theorem key1 {kv : List (V × V)} (h : ∀ e ∈ kv, kd e.1 = 1) (i : Int) : keyOk kv (.int i) := ko_mk Nat.one_ne_zero h
section
variable {W : WL} {S : Sv} {L : Facts} {σ : St} {n : Nat}
theorem g_st (h : Sta σ (gF W S L)) : σ[W.st]? = some (stO W) := h.has.ix 9 rfl
theorem g_ty (h : Sta σ (gF W S L)) : σ[W.ty]? = some (.list (S.tyl.map tyV)) := h.has.ix 10 rfl
theorem g_me (h : Sta σ (gF W S L)) : σ[W.me]? = some (.list S.mel) := h.has.ix 11 rfl
theorem g_nm (h : Sta σ (gF W S L)) : σ[W.nm]? = some (.dict S.nm) := h.has.ix 12 rfl
theorem g_s (h : Sta σ (gF W S L)) : σ[W.s]? = some (sO W) := h.has.ix 6 rfl
theorem g_ti (h : Sta σ (gF W S L)) : σ[W.ti]? = some (.dict S.td) := h.has.ix 7 rfl
theorem g_mi (h : Sta σ (gF W S L)) : σ[W.mi]? = some (.dict S.md) := h.has.ix 8 rfl
theorem g_am (h : Sta σ (gF W S L)) : σ[W.am]? = some (.list (S.am.map V.str)) := h.has.ix 13 rfl
theorem g_L (h : Sta σ (gF W S L)) {p : Nat × O} (hp : p ∈ L) : σ[p.1]? = some p.2 := h.has p (List.mem_append_right _ (List.mem_append_right _ hp))
theorem gF_app {M : Facts} : gF W S L ++ M = gF W S (L ++ M) := by unfold gF; rw [List.append_assoc, List.append_assoc]
theorem g_push (h : Sta σ (gF W S L)) (os : St) : Upd (gF W S L) (gF W S (L ++ mkF σ.length os)) σ (σ ++ os) := by
 have := h.pushF os
 rwa [gF_app] at this
theorem g_setTy (h : Sta σ (gF W S L)) {t : TyR} : Upd (gF W S L) (gF W { S with tyl := S.tyl ++ [some t] } L) σ (σ.set W.ty (.list (S.tyl.map tyV ++ [.loc t.y]))) := by
 have := h.setIx 10 (o' := .list (S.tyl.map tyV ++ [.loc t.y])) rfl
 unfold gF trF
 rw [List.map_append]
 exact this
theorem g_setMe (h : Sta σ (gF W S L)) {x : List V} : Upd (gF W S L) (gF W { S with mel := x } L) σ (σ.set W.me (.list x)) := h.setIx 11 rfl
theorem g_setNm (h : Sta σ (gF W S L)) {x : List (V × V)} : Upd (gF W S L) (gF W { S with nm := x } L) σ (σ.set W.nm (.dict x)) := h.setIx 12 rfl
theorem g_setTd (h : Sta σ (gF W S L)) {x : List (V × V)} : Upd (gF W S L) (gF W { S with td := x } L) σ (σ.set W.ti (.dict x)) := h.setIx 7 rfl
theorem g_setMd (h : Sta σ (gF W S L)) {x : List (V × V)} : Upd (gF W S L) (gF W { S with md := x } L) σ (σ.set W.mi (.dict x)) := h.setIx 8 rfl
theorem g_setAm (h : Sta σ (gF W S L)) {a : String} : Upd (gF W S L) (gF W { S with am := S.am ++ [a] } L) σ (σ.set W.am (.list (S.am.map V.str ++ [.str a]))) := by
 have := h.setIx 13 (o' := .list (S.am.map V.str ++ [.str a])) rfl
 unfold gF trF
 rw [List.map_append]
 exact this
theorem lim_l {a b : Nat} (h : a ≤ n) (hn : n + b + 1 ≤ 100000) : Nat.blt a lim = true := lim_of (Nat.le_trans (Nat.succ_le_succ h) (Nat.le_trans (Nat.succ_le_succ (Nat.le_add_right n b)) hn))
theorem add_type_spec {N : Nat} {Q : Post} {cnt asm pl : Nat} {name : String} (h : Sta σ (gF W S L)) (ok : Sok S n) (hn : n ≤ 9000) (hc : cnt ≤ 2) (hp : σ[pl]? = some (.list (prm cnt))) (hpn : pl ∉ idx (gF W S L))
  (q : ∀ nm' σ', (∀ e ∈ nm', kd e.1 = 3) -> nm'.length ≤ n + 1 -> Upd (gF W S L) (gF W { S with tyl := S.tyl ++ [some ⟨σ.length, name, cnt, asm⟩], nm := nm' } (L ++ tyF S.tyl.length ⟨σ.length, name, cnt, asm⟩ [])) σ σ' -> Q (.int S.tyl.length) σ') :
  wpF (N + 2) .add_type [.loc W.st, .int asm, .str name, .int 1, .int 0, .int 12, .loc pl] Q σ := by
 have g9 := g_st h
 have g10 := g_ty h
 have lm : (S.tyl.map tyV).length = S.tyl.length := List.length_map _
 rw [<- lm] at q
 have U1 := g_push h (tyO σ.length (S.tyl.map tyV).length name cnt asm [])
 have g10' := g_ty U1.sta
 have U2 := g_setTy U1.sta (t := ⟨σ.length, name, cnt, asm⟩)
 have g9' := g_st U2.sta
 have g12' := g_nm U2.sta
 have gp' : ((σ ++ tyO σ.length (S.tyl.map tyV).length name cnt asm []).set W.ty (.list (S.tyl.map tyV ++ [.loc σ.length])))[pl]? = some (.list (prm cnt)) :=
  lk_ne (fun e => hpn (e ▸ List.mem_map_of_mem (List.mem_of_getElem? (show (gF W S L)[10]? = some (W.ty, .list (S.tyl.map tyV)) from rfl)))) (lk_app hp)
 have l1 : Nat.blt (S.tyl.map tyV).length lim = true := by rw [lm]; exact lim_of (Nat.le_trans (Nat.succ_le_succ (Nat.le_trans ok.tyl hn)) (by decide))
 have l2 : Nat.blt S.nm.length lim = true := lim_of (Nat.le_trans (Nat.succ_le_succ (Nat.le_trans ok.nml hn)) (by decide))
 have kk : keyOk S.nm (.tup [.int asm, .str name, .int (prm cnt).length]) := key3 ok.nmk rfl
 have U12 := U1.trans U2
 have fin0 := fun nm' σ' a b U => q nm' σ' a b (U12.trans U)
 clear U1 U12 q
 refine enter7 rfl ?_
 delta body_add_type
 (and_intros)
 refine enter2 rfl ?_
 delta body_sort_flags
 (and_intros)
 refine typedef_spec hc hp ?_
 cases hd : (dget S.nm (.tup [.int asm, .str name, .int (prm cnt).length])).isSome with
 | true =>
  (and_intros)
  exact fin0 S.nm _ ok.nmk (Nat.le_succ_of_le ok.nml) U2.sta.refl
 | false =>
  (and_intros)
  exact fin0 (dput S.nm (.tup [.int asm, .str name, .int (prm cnt).length]) (.int (S.tyl.map tyV).length)) _ (dput_keys (p := fun k => kd k = 3) rfl ok.nmk) (Nat.le_trans (dput_len _) (Nat.succ_le_succ ok.nml)) (g_setNm U2.sta)
end
noncomputable def tyA (tid : Nat) (t : TyR) : Facts := mkF t.y [.inst .TypeDef (tyFs t.y tid t.name t.asm), .list [], .list (prm t.cnt), .list (zer t.cnt), .list (bnd t.cnt), .list []]
noncomputable def tyB (t : TyR) : Facts := mkF (t.y + 7) [.list [], .list [], .list []]
section
variable {W : WL} {S : Sv} {L M : Facts} {σ : St} {n : Nat} {tid : Nat} {t : TyR} {ms : List Nat}
theorem tyF_sh {X : Facts} : gF W S (L ++ (tyF tid t ms ++ M)) = (ktF W.K S.ts ++ (trF W S ++ (L ++ tyA tid t))) ++ (t.y + 6, .list (ms.map fun (m : Nat) => V.int m)) :: (tyB t ++ M) := by
 rw [List.append_assoc, List.append_assoc, List.append_assoc]; rfl
theorem g_setMs (h : Sta σ (gF W S (L ++ (tyF tid t ms ++ M)))) {ms' : List Nat} : Upd (gF W S (L ++ (tyF tid t ms ++ M))) (gF W S (L ++ (tyF tid t ms' ++ M))) σ (σ.set (t.y + 6) (.list (ms'.map fun (m : Nat) => V.int m))) := by
 rw [tyF_sh (X := L)] at h ⊢
 rw [tyF_sh (X := L)]
 exact h.setAt
theorem g_type (h : Sta σ (gF W S (L ++ (tyF tid t ms ++ M)))) : σ[t.y]? = some (.inst .TypeDef (tyFs t.y tid t.name t.asm)) := g_L h (p := (t.y, .inst .TypeDef (tyFs t.y tid t.name t.asm))) (List.mem_append_right _ (List.mem_append_left _ (.head _)))
theorem g_ms (h : Sta σ (gF W S (L ++ (tyF tid t ms ++ M)))) : σ[t.y + 6]? = some (.list (ms.map fun (m : Nat) => V.int m)) := g_L h (p := (t.y + 6, .list (ms.map fun (m : Nat) => V.int m))) (List.mem_append_right _ (List.mem_append_left _ (List.mem_of_getElem? (i := 6) rfl)))
theorem tyl_at {l : List (Option TyR)} (ht : l[tid]? = some (some t)) : (l.map tyV)[tid]? = some (.loc t.y) := by rw [List.getElem?_map, ht]; rfl
theorem note_spec {N : Nat} {Q : Post} {mid y : Nat} (h : Sta σ (gF W S L)) (hm : S.mel[mid]? = some (.loc y)) (ht : S.tyl[tid]? = some (some t)) {ngen g k ret : Nat} {b : V} (hy : σ[y]? = some (.inst .MethodDef (meFs mid tid ngen g k ret b)))
  (q : Q .none σ) : wpF (N + 1) .note_method [.loc W.st, .int mid] Q σ := by
 have g1 := g_st h
 have g2 := g_me h
 have g3 := g_ty h
 have e2 := tyl_at ht
 refine enter2 rfl ?_
 delta body_note_method
 (and_intros)
 exact q
theorem add_method_spec {N : Nat} {Q : Post} {ret : Nat} (h : Sta σ (gF W S (L ++ (tyF tid t ms ++ M)))) (hn : S.mel.length ≤ 9000) (hms : ms.length ≤ 10) (ht : S.tyl[tid]? = some (some t))
  (q : ∀ σ', Upd (gF W S (L ++ (tyF tid t ms ++ M))) (gF W { S with mel := S.mel ++ [.loc σ.length] } (L ++ (tyF tid t (ms ++ [S.mel.length]) ++ (M ++ mkF σ.length (meO0 σ.length S.mel.length tid ret))))) σ σ' -> Q (.int S.mel.length) σ') :
  wpF (N + 3) .add_method [.loc W.st, .int tid, .str "g", .int 6, .int 0, .int ret, .tup []] Q σ := by
 have e2 := tyl_at ht
 have l1 : Nat.blt S.mel.length lim = true := lim_of (Nat.le_trans (Nat.succ_le_succ hn) (by decide))
 have l3 : Nat.blt (ms.map fun (m : Nat) => V.int m).length lim = true := by rw [List.length_map]; exact lim_of (Nat.le_trans (Nat.succ_le_succ hms) (by decide))
 have U1 := g_push h (meO0 σ.length S.mel.length tid ret)
 rw [List.append_assoc, List.append_assoc] at U1
 have U2 := g_setMe U1.sta (x := S.mel ++ [.loc σ.length])
 have U3 := g_setMs U2.sta (ms' := ms ++ [S.mel.length])
 have U := (U1.trans U2).trans U3
 rw [List.map_append] at U U3
 have g1 := g_st h
 have g2 := g_ty h
 have g3 := g_me h
 have g4 := g_me U1.sta
 have g5 := g_type U2.sta
 have g6 := g_ms U2.sta
 have g7 := g_st U3.sta
 have hy := g_L U3.sta (p := (σ.length, .inst .MethodDef (meFs S.mel.length tid 0 (σ.length + 1) (σ.length + 2) ret .none))) (List.mem_append_right _ (List.mem_append_right _ (List.mem_append_right _ (.head _))))
 have key := note_spec (N := N + 1) (Q := fun _ s => Q (.int S.mel.length) s) (t := t) U.sta (mid := S.mel.length) (y := σ.length) List.getElem?_concat_length ht hy (q _ U)
 refine enter7 rfl ?_
 delta body_add_method
 (and_intros)
 refine enter1 rfl ?_
 delta body_kept_flags
 (and_intros)
 refine methoddef_spec ?_
 (and_intros)
 exact key
end
structure MeR where
 y : Nat
 mid : Nat
 owner : Nat
 ngen : Nat
 g : Nat
 ret : Nat
noncomputable def gn (n : Nat) : List V := match n with
 | 1 => [.str "V"]
 | _ => [.str "V", .str "W"]
noncomputable abbrev meI (r : MeR) (body : V) : O := .inst .MethodDef (meFs r.mid r.owner r.ngen r.g (r.g + 1) r.ret body)
noncomputable def meF (r : MeR) (body : V) : Facts := [(r.y, meI r body), (r.g, .list (gn r.ngen)), (r.g + 1, .list (bnd r.ngen))]
section
variable {W : WL} {S : Sv} {L M P : Facts} {σ : St} {n m mid tid ret : Nat}
theorem meO_sh {i : O} {X : Facts} : gF W S (P ++ (m, i) :: X) = (ktF W.K S.ts ++ (trF W S ++ P)) ++ (m, i) :: X := by
 rw [List.append_assoc, List.append_assoc]; rfl
theorem set_generic_spec {N : Nat} {Q : Post} {gl bl many : Nat} (h : Sta σ (gF W S (P ++ mkF m (meO0 m mid tid ret)))) (hm : S.mel[mid]? = some (.loc m)) (hmany : many = 1 ∨ many = 2)
  (hg : σ[gl]? = some (.list (gn many))) (hb : σ[bl]? = some (.list [])) (ng : m ≠ gl) (nb : m ≠ bl)
  (q : ∀ σ', Upd (gF W S (P ++ mkF m (meO0 m mid tid ret))) (gF W S (P ++ meF ⟨m, mid, tid, many, σ.length, ret⟩ .none)) σ σ' -> Q .none σ') : wpF (N + 1) .set_generic [.loc W.st, .int mid, .loc gl, .loc bl] Q σ := by
 have gst := g_st h
 have gme := g_me h
 have gm := g_L h (p := (m, .inst .MethodDef (meFs mid tid 0 (m + 1) (m + 2) ret .none))) (List.mem_append_right _ (.head _))
 have hml : m < σ.length := (List.getElem?_eq_some_iff.mp gm).1
 have key : Upd (gF W S (P ++ mkF m (meO0 m mid tid ret))) (gF W S (P ++ meF ⟨m, mid, tid, many, σ.length, ret⟩ .none)) σ (σ.set m (.inst .MethodDef (meFs mid tid many σ.length (σ.length + 1) ret .none)) ++ [.list (gn many), .list (bnd many)]) := by
  have e0 : mkF m (meO0 m mid tid ret) = (m, .inst .MethodDef (meFs mid tid 0 (m + 1) (m + 2) ret .none)) :: mkF (m + 1) [.list [], .list [], .list []] := rfl
  rw [e0, meO_sh] at h ⊢
  have U1 := h.setAt (o' := .inst .MethodDef (meFs mid tid many σ.length (σ.length + 1) ret .none))
  have U := U1.trans (U1.sta.pushF [.list (gn many), .list (bnd many)])
  rw [List.length_set] at U
  refine U.sublist ?_
  unfold meF
  rw [meO_sh, List.append_assoc (_ ++ (_ ++ _))]
  exact List.Sublist.append_left (.cons_cons _ (.cons _ (.cons _ (.cons _ (List.Sublist.refl _))))) _
 have fin := q _ key
 clear key q h
 refine enter4 rfl ?_
 delta body_set_generic
 refine cut_set fun W1 hW => ?_
 (and_intros)
 refine hW _ _ (cut_setA fun W2 hW2 => ?_)
 (and_intros)
 refine hW2 _ _ (hp_nil ?_)
 rcases hmany with rfl | rfl
 ·(sizeOf_list_dec)
  refine (congrArg (Q .none) (congrArg (σ.set m · ++ _) ?_)).mpr fin
  kernel_rfl
 ·(sizeOf_list_dec)
  exact fin
end
noncomputable def mk2 (c k : Nat) : V := .tup [.int c, .int k]
section
variable {W : WL} {S : Sv} {L M : Facts} {σ : St} {n tid : Nat} {t : TyR} {ms : List Nat}
theorem Sta.grow2 {fs : Facts} (s : Sta σ fs) (a b : O) : Upd fs fs σ (σ ++ [a] ++ [b]) := by rw [List.append_assoc]; exact s.grow _
theorem Sta.grow3 {fs : Facts} (s : Sta σ fs) (a b c : O) : Upd fs fs σ (σ ++ [a] ++ [b] ++ [c]) := by rw [List.append_assoc, List.append_assoc]; exact s.grow _
theorem ne_len {l : St} {m : Nat} (h : m < σ.length) : m ≠ (σ ++ l).length := fun e => by rw [List.length_append] at e; exact Nat.ne_of_lt (Nat.lt_of_lt_of_le h (Nat.le_add_right _ _)) e
theorem cut_for {F : FnSem} {R : Post} {N : Nt} {ρ : Fr} {is : List Nat} {tup : Bool} {it : E} {body k : Mine.S} (h : ∀ B : Nt -> Nt, (∀ N ρ σ, wpS F R body N ρ σ -> B N ρ σ) -> wpE F it [] (ForW is tup B (wpS F R k N)) ρ σ []) : wpS F R (.for' is tup it body k) N ρ σ := h _ fun _ _ _ h => h
theorem cut_setI {F : FnSem} {R : Post} {N : Nt} {ρ : Fr} {o i e : E} {k : Mine.S} (h : ∀ W : Nt, (∀ ρ σ, wpS F R k N ρ σ -> W ρ σ) -> wpE F e [] (wpE F o [] (wpE F i [] (SetIW W))) ρ σ []) : wpS F R (.setI o i e k) N ρ σ := h _ fun _ _ h => h
theorem gn_take {many : Nat} (h : many = 1 ∨ many = 2) : List.take many [V.str "V", V.str "W"] = gn many := by rcases h with rfl | rfl <;> rfl
theorem law_type_step {N : Nat} {R : Post} {Nn : Nt} {c many : Nat} {a1 a2 a3 : V} {x8 : Option V} (h : Sta σ (gF W S (L ++ (tyF tid t ms ++ M)))) (hn : S.mel.length ≤ 8000) (hms : ms.length ≤ 10) (ht : S.tyl[tid]? = some (some t)) (hmk : ∀ e ∈ S.md, kd e.1 = 3) (hml : S.md.length ≤ 9000) (hmany : many = 1 ∨ many = 2)
  (q : ∀ (y g : Nat) x8 σ', Upd (gF W S (L ++ (tyF tid t ms ++ M))) (gF W { S with mel := S.mel ++ [.loc y], md := dput S.md (mk2 c many) (.int S.mel.length) } (L ++ (tyF tid t (ms ++ [S.mel.length]) ++ (M ++ meF ⟨y, S.mel.length, tid, many, g, 0⟩ .none)))) σ σ' ->
   Nn [some (.loc W.s), some a1, some (.int c), some a2, some a3, some (.loc W.st), some (.int tid), some (.int many), x8] σ') :
  wpS (wpF (N + 3)) R lb_law_type_0 Nn [some (.loc W.s), some a1, some (.int c), some a2, some a3, some (.loc W.st), some (.int tid), some (.int many), x8] σ := by
 delta lb_law_type_0
 refine cut_set fun W1 hW => ?_
 (and_intros)
 refine add_method_spec h (Nat.le_trans hn (by decide)) hms ht fun σ1 U1 => ?_
 (and_intros)
 refine hW _ _ ?_
 have e1 : L ++ (tyF tid t (ms ++ [S.mel.length]) ++ (M ++ mkF σ.length (meO0 σ.length S.mel.length tid 0))) = (L ++ (tyF tid t (ms ++ [S.mel.length]) ++ M)) ++ mkF σ.length (meO0 σ.length S.mel.length tid 0) := by rw [List.append_assoc, List.append_assoc]
 rw [e1] at U1
 have et := gn_take hmany
 have U2 := U1.sta.grow3 (.list [.str "V", .str "W"]) (.list (gn many)) (.list [])
 have hm := (List.getElem?_eq_some_iff.mp (g_L U1.sta (p := (σ.length, _)) (List.mem_append_right _ (.head _)))).1
 have fin := fun g => q σ.length g (some (.int S.mel.length))
 have l2 : Nat.blt S.md.length lim = true := lim_of (Nat.le_trans (Nat.succ_le_succ hml) (by decide))
 have kk : keyOk S.md (.tup [.int c, .int many]) := key3 hmk rfl
 clear q
 (and_intros)
 rw [et]
 refine wpF_le (n := 1) (Nat.le_add_left 1 (N + 2)) (set_generic_spec (N := 0) U2.sta List.getElem?_concat_length hmany (lk_app lk_new) lk_new (ne_len hm) (by rw [List.append_assoc]; exact ne_len hm) fun σ2 U3 => ?_)
 have gs := g_s U3.sta
 have gmi := g_mi U3.sta
 have U4 := g_setMd U3.sta (x := dput S.md (mk2 c many) (.int S.mel.length))
 have U := ((U1.trans U2).trans U3).trans U4
 rw [List.append_assoc, List.append_assoc] at U
 have fin := fin _ _ U
 (and_intros)
 exact fin
theorem prm_take {cnt : Nat} (h : cnt ≤ 2) : List.take cnt [V.str "T", V.str "U"] = prm cnt := by
 rcases lt3 h with rfl | rfl | rfl <;> rfl
theorem law_type_spec {N : Nat} {Q : Post} {asm c cnt : Nat} {name : String} (h : Sta σ (gF W S L)) (ok : Sok S n) (hn : n ≤ 7000) (hc : cnt ≤ 2)
  (q : ∀ (y y1 g1 y2 g2 : Nat) nm' σ', (∀ e ∈ nm', kd e.1 = 3) -> nm'.length ≤ n + 1 ->
   Upd (gF W S L) (gF W { S with tyl := S.tyl ++ [some ⟨y, name, cnt, asm⟩], nm := nm', mel := S.mel ++ [.loc y1] ++ [.loc y2], td := dput S.td (.int c) (.int S.tyl.length), md := dput (dput S.md (mk2 c 1) (.int S.mel.length)) (mk2 c 2) (.int (S.mel.length + 1 : Nat)) }
    (L ++ (tyF S.tyl.length ⟨y, name, cnt, asm⟩ [S.mel.length, S.mel.length + 1] ++ (meF ⟨y1, S.mel.length, S.tyl.length, 1, g1, 0⟩ .none ++ meF ⟨y2, S.mel.length + 1, S.tyl.length, 2, g2, 0⟩ .none)))) σ σ' -> Q .none σ') :
  wpF (N + 4) .law_type [.loc W.s, .int asm, .int c, .str name, .int cnt] Q σ := by
 have gs := g_s h
 have et := prm_take hc
 have U1 := h.grow2 (.list [.str "T", .str "U"]) (.list (prm cnt))
 refine enter5 rfl ?_
 delta body_law_type
 refine cut_set fun W0 hW0 => ?_
 (and_intros)
 refine hW0 _ _ (cut_set fun W1 hW1 => ?_)
 (and_intros)
 rw [et]
 refine wpF_le (n := 2) (Nat.le_add_left 2 (N + 1)) (add_type_spec (N := 0) U1.sta ok (Nat.le_trans hn (by decide)) hc lk_new (fun hi => Nat.lt_irrefl _ (Nat.lt_of_lt_of_le (h.has.lt hi) (by rw [List.length_append]; exact Nat.le_add_right _ _))) fun nm' σ1 hk hl U2 => ?_)
 have gs1 := g_s U2.sta
 have gti := g_ti U2.sta
 have l1 : Nat.blt S.td.length lim = true := lim_of (Nat.le_trans (Nat.succ_le_succ (Nat.le_trans ok.tdl hn)) (by decide))
 have kk : keyOk S.td (.int c) := key1 ok.tdk c
 have U3 := g_setTd U2.sta (x := dput S.td (.int c) (.int S.tyl.length))
 have U123 := (U1.trans U2).trans U3
 have fin := fun y1 g1 y2 g2 σ' U => q (σ ++ [O.list [V.str "T", V.str "U"]] ++ [O.list (prm cnt)]).length y1 g1 y2 g2 nm' σ' hk hl (U123.trans U)
 clear q U1 U2 U123
 generalize (σ ++ [O.list [V.str "T", V.str "U"]] ++ [O.list (prm cnt)]).length = y at U3 gs1 gti fin
 rw [<- List.append_nil (tyF S.tyl.length _ _)] at U3
 (and_intros)
 refine hW1 _ _ (cut_setI fun W2 hW2 => ?_)
 (and_intros)
 refine hW2 _ _ (cut_for fun B hB => ?_)
 (and_intros)
 refine hB _ _ _ (law_type_step (many := 1) U3.sta (Nat.le_trans ok.mel (Nat.le_trans hn (by decide))) (Nat.zero_le _) List.getElem?_concat_length ok.mdk (Nat.le_trans ok.mdl (Nat.le_trans hn (by decide))) (.inl rfl) fun y1 g1 x8 σ2 U4 => ?_)
 (and_intros)
 refine hB _ _ _ (law_type_step (many := 2) U4.sta (by rw [List.length_append]; exact Nat.succ_le_succ (Nat.le_trans ok.mel (Nat.le_trans hn (by decide)))) (Nat.le_add_left 1 9) List.getElem?_concat_length (dput_keys (p := fun k => kd k = 3) rfl ok.mdk) (Nat.le_trans (dput_len _) (Nat.succ_le_succ (Nat.le_trans ok.mdl (Nat.le_trans hn (by decide))))) (.inr rfl) fun y2 g2 x8' σ3 U5 => ?_)
 (and_intros)
 have U := U4.trans U5
 rw [List.length_append, List.append_nil] at U
 exact fin y1 g1 y2 g2 σ3 U
end
theorem cut_expr {F : FnSem} {R : Post} {N : Nt} {ρ : Fr} {σ : St} {e : E} {k : Mine.S} (h : ∀ W : Nt, (∀ ρ σ, wpS F R k N ρ σ -> W ρ σ) -> wpE F e [] (kN W) ρ σ []) : wpS F R (.expr e k) N ρ σ := h _ fun _ _ h => h
theorem cut_loop {F : FnSem} {R : Post} {N : Nt} {ρ : Fr} {σ : St} {is : List Nat} {tup : Bool} {it : E} {body k : Mine.S} (h : ∀ W : Kt, (∀ ρ σ vs, ForW is tup (wpS F R body) (wpS F R k N) ρ σ vs -> W ρ σ vs) -> wpE F it [] W ρ σ []) : wpS F R (.for' is tup it body k) N ρ σ := h _ fun _ _ _ h => h
noncomputable def krows (k : Nat) : List V := (List.range k).map fun (j : Nat) => V.tup [.int 1, .int j]
noncomputable def kkv (k : Nat) : List (V × V) := (List.range k).map fun (j : Nat) => (V.tup [.int 1, .int j], V.int j)
noncomputable def kst (y k : Nat) : St := [.inst .KindTable [(.rows, .loc (y + 1)), (.index, .loc (y + 2)), (.depths, .loc (y + 3)), (.weights, .loc (y + 4)), (.opens, .loc (y + 5))], .list (krows k), .dict (kkv k), .list (List.replicate k (.int 1)), .list (List.replicate k (.int 1)), .list (List.replicate k (.int 0))]
theorem krows_succ {k : Nat} : krows (k + 1) = krows k ++ [.tup [.int 1, .int k]] := by unfold krows; rw [List.range_succ, List.map_append]; rfl
theorem kkv_put {k : Nat} : dput (kkv k) (.tup [.int 1, .int k]) (.int k) = kkv (k + 1) := by
 have e : kkv (k + 1) = kkv k ++ [(.tup [.int 1, .int k], .int k)] := by unfold kkv; rw [List.range_succ, List.map_append]; rfl
 rw [e]
 refine dput_fresh fun e he q => ?_
 obtain ⟨j, hj, rfl⟩ := List.mem_map.mp he
 exact Nat.ne_of_lt (List.mem_range.mp hj) (n_inj (t2_inj q))
theorem kkv_ok {k : Nat} : keyOk (kkv k) (.tup [.int 1, .int k]) := key3 (fun e he => by
 obtain ⟨j, hj, rfl⟩ := List.mem_map.mp he
 rfl) rfl
section
variable {σ : St}
theorem ktinit_spec {N : Nat} {Q : Post} (q : Q .none (σ ++ kst σ.length 16)) : wpF (N + 1) .KindTable_init [.loc σ.length] Q (σ ++ [.inst .KindTable []]) := by
 have loop := for_rule (lv := fun _ => True) (body := wpS (wpF N) Q lb_KindTable_init_0) (i := 1) (fun x : Option V × Option V => [some (.loc σ.length), x.1, x.2]) (fun k _ σ' => σ' = σ ++ kst σ.length k) (rngL 0 16) 0 (fun _ σ' => Q .none σ') (none, none) _ rfl (fun _ _ _ _ => trivial) (fun j x a σ' N' hx hI hN => ?_) fun a σ' hI => by rw [hI]; exact q
 ·refine enter1 rfl ?_
  delta body_KindTable_init
  repeat first | ((with_reducible apply st_list); kernel_rfl; exact rfl) | ((with_reducible apply st_dict); kernel_rfl; exact rfl)
  refine cut_loop fun W hW => ?_
  (and_intros)
  refine hW _ _ _ (.mk (.rng 0 16) ?_)
  refine hp_eq (P := fun s => forW (fun _ => True) false [1] (wpS (wpF N) Q lb_KindTable_init_0) (rngL 0 16) (fun _ σ' => Q .none σ') [some (.loc σ.length), none, none] s) loop ?_
  kernel_rfl
 ·have hj : j < 16 := (List.getElem?_eq_some_iff.mp hx).1
  have ex : x = .int j := Option.some.inj (hx.symm.trans (rng_at (k := 16) hj))
  subst ex hI
  rw [Nat.zero_add] at hN ⊢
  have fin := hN (some (.int j), some (.tup [.int 1, .int j])) _ rfl
  have l0 : Nat.blt j lim = true := lim_of (Nat.le_trans hj (by decide))
  have l1 : Nat.blt (krows j).length lim = true := by unfold krows; rw [List.length_map, List.length_range]; exact l0
  have l2 : Nat.blt (kkv j).length lim = true := by unfold kkv; rw [List.length_map, List.length_range]; exact l0
  have l3 : ∀ v : V, Nat.blt (List.replicate j v).length lim = true := fun v => by rw [List.length_replicate]; exact l0
  have l4 := l3 (.int 1)
  have l5 := l3 (.int 0)
  have k1 := kkv_ok (k := j)
  have k2 := kkv_put (k := j)
  unfold kst at fin ⊢
  rw [krows_succ, rep_snoc, rep_snoc] at fin
  delta lb_KindTable_init_0
  (sizeOf_list_dec)
  exact fin
theorem st_l1 {l : St} {n : At} {R : Post} {k : Mine.S} {N : Nt} {ρ : Fr} {v : V} {F : FnSem} {c : Cl} {fs : List (At × V)} (b : Nat.blt fs.length 60 = true) (p : (Nat.beq c Cl.Paths && Nat.beq n At.kind) = false) (q : wpS F R k N (some (.loc σ.length) :: ρ) (σ ++ .inst c (fput fs n (.loc (σ.length + (l.length + 1)))) :: (l ++ [.list [v]]))) : wpS F R (.setA (.lv 0) n (.list (.cons (.const v) .nil)) k) N (some (.loc σ.length) :: ρ) (σ ++ .inst c fs :: l) := by
 show kList (wpE F (.lv 0) [] (SetAW n (wpS F R k N))) [v] (some (.loc σ.length) :: ρ) (σ ++ .inst c fs :: l) []
 exact ls_fr (sa_fr0 rfl rfl b p q)
noncomputable def sst (y : Nat) : St := .inst .Store [(.kt, .loc (y + 1)), (.types', .loc (y + 7)), (.fields_, .loc (y + 8)), (.methods, .loc (y + 9)), (.names, .loc (y + 10)), (.asms, .loc (y + 11)), (.entry, .int 0)] :: kst (y + 1) 16 ++ [.list [.none], .list [.none], .list [.none], .dict [], .list []]
theorem stinit_spec {N : Nat} {Q : Post} (q : Q .none (σ ++ sst σ.length)) : wpF (N + 2) .Store_init [.loc σ.length] Q (σ ++ [.inst .Store []]) := by
 have e1 : (σ ++ [O.inst .Store []]).length = σ.length + 1 := List.length_append
 refine enter1 rfl ?_
 delta body_Store_init
 refine cut_setA fun W hW => ?_
 (and_intros)
 refine ktinit_spec ⟨rfl, ?_⟩
 rw [e1]
 refine hp_assoc (P := fun s => wpE (wpF (N + 1)) (.lv 0) [] (SetAW .kt W) [some (.loc σ.length)] s [.loc (σ.length + 1)]) ?_
 (sizeOf_list_dec)
 refine hW _ _ ?_
 repeat ((with_reducible apply st_l1); kernel_rfl; exact rfl)
 (sizeOf_list_dec)
 refine hp_eq (P := fun s => Q .none s) q ?_
 kernel_rfl
theorem new_asm_spec {N : Nat} {W : WL} {S : Sv} {L : Facts} {Q : Post} {name : String} (h : Sta σ (gF W S L)) (hl : S.am.length ≤ 9000) (q : ∀ σ', Upd (gF W S L) (gF W { S with am := S.am ++ [name] } L) σ σ' -> Q (.int S.am.length) σ') : wpF (N + 1) .new_asm [.loc W.st, .str name] Q σ := by
 have U := g_setAm h (a := name)
 have g1 := g_st h
 have g2 := g_am h
 have g3 := g_st U.sta
 have g4 : (σ.set W.am (.list (S.am.map V.str ++ [.str name])))[W.am]? = some (.list (S.am.map V.str ++ [.str name])) := lk_set g2
 have l1 : Nat.blt (S.am.map V.str).length lim = true := by rw [List.length_map]; exact lim_of (Nat.le_trans (Nat.succ_le_succ hl) (by decide))
 have e : (((S.am.map V.str ++ [V.str name]).length : Nat) : Int) - 1 = ((S.am.length : Nat) : Int) := by rw [List.length_append, List.length_map]; exact Int.add_sub_cancel (S.am.length : Int) 1
 have fin := q _ U
 rw [<- e] at fin
 refine enter2 rfl ?_
 delta body_new_asm
 (and_intros)
end
theorem Upd.choose {fs fs' fs'' : Facts} {σ σ' : St} (U : Upd fs fs' σ σ') (s : ∀ p ∈ fs'', p ∈ fs') (nd : (idx fs'').Nodup) : Upd fs fs'' σ σ' :=
 ⟨fun p hp => U.has p (s p hp), nd, U.other, fun n hn => by
  obtain ⟨p, hp, rfl⟩ := List.mem_map.mp hn
  exact U.new _ (List.mem_map_of_mem (s p hp)), U.len⟩
structure Std (S : Sv) (L : Facts) (tid : Nat) (name : String) (cnt asm k : Nat) (b : V) : Prop where
 lo : 64 ≤ tid
 cn : cnt ≤ 2
 ex : ∃ y y1 g1 y2 g2, (S.tyl[tid]? = some (some ⟨y, name, cnt, asm⟩) /\ S.mel[k]? = some (.loc y1) /\ S.mel[k + 1]? = some (.loc y2)) /\ (∀ p ∈ tyF tid ⟨y, name, cnt, asm⟩ [k, k + 1], p ∈ L) /\ (∀ p ∈ meF ⟨y1, k, tid, 1, g1, 0⟩ b, p ∈ L) /\ ∀ p ∈ meF ⟨y2, k + 1, tid, 2, g2, 0⟩ .none, p ∈ L
theorem ex5 {α β γ δ ε : Type} {R : α -> β -> γ -> δ -> ε -> Prop} {P : Prop} (h : ∃ a b c d e, R a b c d e) (k : ∀ a b c d e, R a b c d e -> P) : P := h.elim fun a h => ex4 h (k a)
structure At' (S : Sv) (c tid k : Nat) : Prop where
 td : dget S.td (.int c) = some (.int tid)
 m1 : dget S.md (mk2 c 1) = some (.int k)
 m2 : dget S.md (mk2 c 2) = some (.int (k + 1 : Nat))
def TyAll (S : Sv) (L : Facts) : Prop := ∀ tid t, S.tyl[tid]? = some (some t) -> ∃ ms, ∀ p ∈ tyF tid t ms, p ∈ L
noncomputable def meMid : O -> Option V
 | .inst c fs => bif Nat.beq c Cl.MethodDef then fget fs .mid else none
 | _ => none
structure Ext (X : Nat -> Prop) (S S' : Sv) (L L' : Facts) : Prop where
 ts : S.ts <+: S'.ts
 ty : S.tyl <+: S'.tyl
 me : S.mel <+: S'.mel
 am : S.am <+: S'.am
 L : ∀ p ∈ L, (∀ m, X m -> meMid p.2 ≠ some (.int m)) -> p ∈ L'
section
variable {X Y : Nat -> Prop} {S S' S'' : Sv} {L L' L'' : Facts} {tid cnt asm k : Nat} {name : String} {b : V}
theorem Ext.refl : Ext X S S L L := ⟨List.prefix_rfl, List.prefix_rfl, List.prefix_rfl, List.prefix_rfl, fun _ h _ => h⟩
theorem Ext.trans (a : Ext X S S' L L') (b : Ext X S' S'' L' L'') : Ext X S S'' L L'' := ⟨a.ts.trans b.ts, a.ty.trans b.ty, a.me.trans b.me, a.am.trans b.am, fun p hp hx => b.L p (a.L p hp hx) hx⟩
theorem Ext.weak (a : Ext X S S' L L') (h : ∀ m, X m -> Y m) : Ext Y S S' L L' := ⟨a.ts, a.ty, a.me, a.am, fun p hp hx => a.L p hp fun m hm => hx m (h m hm)⟩
theorem Ext.sub (a : Ext (fun _ => False) S S' L L') : ∀ p ∈ L, p ∈ L' := fun p hp => a.L p hp fun _ z => z.elim
theorem get_ext {α : Type} {l l' : List α} {i : Nat} {a : α} (h : l[i]? = some a) (e : l <+: l') : l'[i]? = some a := by
 obtain ⟨r, rfl⟩ := e
 rw [List.getElem?_append_left (List.getElem?_eq_some_iff.mp h).1]; exact h
theorem none_x {o : O} (h : meMid o = none) : ∀ m, X m -> meMid o ≠ some (.int m) := fun m _ e => nomatch h.symm.trans e
theorem tyF_ne {t : TyR} {ms : List Nat} {p : Nat × O} (hp : p ∈ tyF tid t ms) : ∀ m, X m -> meMid p.2 ≠ some (.int m) :=
 none_x (Option.isNone_iff_eq_none.mp (List.all_eq_true.mp (show (tyF tid t ms).all (fun p => (meMid p.2).isNone) = true from rfl) p hp))
theorem meF_ne {r : MeR} {b : V} {p : Nat × O} (hp : p ∈ meF r b) (h : ¬ X r.mid) : ∀ m, X m -> meMid p.2 ≠ some (.int m) := by
 rcases List.mem_cons.mp hp with rfl | hp
 ·exact fun m hm e => h (n_inj (Option.some.inj (show some (V.int r.mid) = some (.int m) from e)) ▸ hm)
 ·exact none_x (Option.isNone_iff_eq_none.mp (List.all_eq_true.mp (show ([(r.g, O.list (gn r.ngen)), (r.g + 1, O.list (bnd r.ngen))]).all (fun p => (meMid p.2).isNone) = true from rfl) p hp))
theorem Std.ext (h : Std S L tid name cnt asm k b) (e : Ext X S S' L L') (h1 : ¬ X k) (h2 : ¬ X (k + 1)) : Std S' L' tid name cnt asm k b :=
 ⟨h.lo, h.cn, ex5 h.ex fun y y1 g1 y2 g2 a => ⟨y, y1, g1, y2, g2, ⟨get_ext a.1.1 e.ty, get_ext a.1.2.1 e.me, get_ext a.1.2.2 e.me⟩, fun p hp => e.L p (a.2.1 p hp) (tyF_ne hp), fun p hp => e.L p (a.2.2.1 p hp) (meF_ne hp h1), fun p hp => e.L p (a.2.2.2 p hp) (meF_ne hp h2)⟩⟩
theorem TyAll.mono (h : TyAll S L) (e : Ext X S S' L L') (q : S'.tyl = S.tyl) : TyAll S' L' := fun tid t ht => ex1 (h tid t (q ▸ ht)) fun ms hms => ⟨ms, fun p hp => e.L p (hms p hp) (tyF_ne hp)⟩
theorem snoc_at {α : Type} {l : List α} {a b : α} {i : Nat} (h : (l ++ [a])[i]? = some b) : l[i]? = some b ∨ i = l.length /\ b = a := by
 rcases Nat.lt_or_ge i l.length with g | g
 ·rw [List.getElem?_append_left g] at h; exact .inl h
 ·obtain ⟨j, rfl⟩ := Nat.le.dest g
  rw [List.getElem?_append_right g, Nat.add_sub_cancel_left] at h
  cases j with
  | zero => exact .inr ⟨rfl, (Option.some.inj h).symm⟩
  | succ j => cases h
theorem TyAll.push (h : TyAll S L) (hL : ∀ p ∈ L, p ∈ L') {t : TyR} {ms : List Nat} (e : S'.tyl = S.tyl ++ [some t]) (hn : ∀ p ∈ tyF S.tyl.length t ms, p ∈ L') : TyAll S' L' := fun tid u hu => by
 rw [e] at hu
 rcases snoc_at hu with hu | ⟨e, hu⟩
 ·exact ex1 (h tid u hu) fun ms hms => ⟨ms, fun p hp => hL p (hms p hp)⟩
 ·rw [e, Option.some.inj hu]; exact ⟨ms, hn⟩
theorem mk2_inj {a b c d : Nat} (h : mk2 a b = mk2 c d) : a = c /\ b = d := by
 unfold mk2 at h
 injection h with h; injection h with h1 h; injection h with h2
 exact ⟨n_inj h1, n_inj h2⟩
theorem At'.new {c : Nat} (e1 : S'.td = dput S.td (.int c) (.int tid)) (e2 : S'.md = dput (dput S.md (mk2 c 1) (.int k)) (mk2 c 2) (.int (k + 1 : Nat))) : At' S' c tid k :=
 ⟨by rw [e1]; exact dget_put, by rw [e2, dget_put_ne fun e => absurd (mk2_inj e).2 (by decide)]; exact dget_put, by rw [e2]; exact dget_put⟩
theorem At'.old {c c' tid' k' : Nat} (h : At' S c' tid' k') (hc : c' ≠ c) (e1 : S'.td = dput S.td (.int c) (.int tid)) (e2 : S'.md = dput (dput S.md (mk2 c 1) (.int k)) (mk2 c 2) (.int (k + 1 : Nat))) : At' S' c' tid' k' :=
 have n2 : ∀ {i j}, mk2 c i ≠ mk2 c' j := fun e => hc (mk2_inj e).1.symm
 ⟨by rw [e1, dget_put_ne fun e => hc (n_inj e).symm]; exact h.td, by rw [e2, dget_put_ne n2, dget_put_ne n2]; exact h.m1, by rw [e2, dget_put_ne n2, dget_put_ne n2]; exact h.m2⟩
structure Added (S S' : Sv) (L L' : Facts) (c : Nat) (name : String) (cnt asm : Nat) (n : Nat) : Prop where
 ext : Ext (fun _ => False) S S' L L'
 ok : Sok S' (n + 2)
 all : TyAll S L -> TyAll S' L'
 std : 64 ≤ S.tyl.length -> Std S' L' S.tyl.length name cnt asm S.mel.length .none
 new : At' S' c S.tyl.length S.mel.length
 old : ∀ c' tid k, c' ≠ c -> At' S c' tid k -> At' S' c' tid k
 ty : ∃ y, S'.tyl = S.tyl ++ [some ⟨y, name, cnt, asm⟩]
 me : S'.mel.length = S.mel.length + 2
 am : S'.am = S.am
 ts : S'.ts = S.ts
end
section
variable {W : WL} {S : Sv} {L : Facts} {σ : St} {n : Nat}
theorem Sok.le {m : Nat} (o : Sok S n) (h : n ≤ m) : Sok S m := ⟨o.kt, Nat.le_trans o.tyl h, Nat.le_trans o.mel h, Nat.le_trans o.nml h, o.nmk, Nat.le_trans o.am h, Nat.le_trans o.tdl h, o.tdk, Nat.le_trans o.mdl h, o.mdk, Nat.le_trans o.tsl h⟩
theorem le_1 {a : Nat} (h : a ≤ n) : a ≤ n + 2 := Nat.le_trans h (Nat.le_add_right _ _)
theorem law_type_spec' {N : Nat} {Q : Post} {asm c cnt : Nat} {name : String} (h : Sta σ (gF W S L)) (ok : Sok S n) (hn : n ≤ 7000) (hc : cnt ≤ 2)
  (q : ∀ S' L' σ', Added S S' L L' c name cnt asm n -> Upd (gF W S L) (gF W S' L') σ σ' -> Q .none σ') : wpF (N + 4) .law_type [.loc W.s, .int asm, .int c, .str name, .int cnt] Q σ := by
 refine law_type_spec h ok hn hc fun y y1 g1 y2 g2 nm' σ' hk hl U => q _ _ σ' ?_ U
 have hL : ∀ M : Facts, ∀ p ∈ L, p ∈ L ++ M := fun _ p hp => List.mem_append_left _ hp
 have len1 : (S.mel ++ [V.loc y1]).length = S.mel.length + 1 := List.length_append
 have m2 : (S.mel ++ [V.loc y1] ++ [V.loc y2]).length = S.mel.length + 2 := by rw [List.length_append, List.length_append]; rfl
 exact ⟨⟨List.prefix_rfl, List.prefix_append _ _, (List.prefix_append _ _).trans (List.prefix_append _ _), List.prefix_rfl, fun p hp _ => hL _ p hp⟩,
  ⟨ok.kt, by rw [List.length_append]; exact Nat.succ_le_succ (Nat.le_succ_of_le ok.tyl), by rw [m2]; exact Nat.add_le_add_right ok.mel 2, Nat.le_succ_of_le hl, hk, le_1 ok.am, Nat.le_trans (dput_len _) (Nat.succ_le_succ (Nat.le_succ_of_le ok.tdl)), dput_keys (p := fun k => kd k = 1) rfl ok.tdk, Nat.le_trans (dput_len _) (Nat.succ_le_succ (Nat.le_trans (dput_len _) (Nat.succ_le_succ ok.mdl))), dput_keys (p := fun k => kd k = 3) rfl (dput_keys (p := fun k => kd k = 3) rfl ok.mdk), le_1 ok.tsl⟩,
  fun ht => ht.push (ms := [S.mel.length, S.mel.length + 1]) (hL _) rfl fun p hp => List.mem_append_right _ (List.mem_append_left _ hp),
  fun h64 => ⟨h64, hc, y, y1, g1, y2, g2, ⟨List.getElem?_concat_length, get_ext List.getElem?_concat_length (List.prefix_append _ _), (by rw [<- len1]; exact List.getElem?_concat_length)⟩, fun p hp => List.mem_append_right _ (List.mem_append_left _ hp), fun p hp => List.mem_append_right _ (List.mem_append_right _ (List.mem_append_left _ hp)), fun p hp => List.mem_append_right _ (List.mem_append_right _ (List.mem_append_right _ hp))⟩,
  .new rfl rfl, fun c' tid k hcc hat => hat.old hcc rfl rfl, ⟨y, rfl⟩, m2, rfl, rfl⟩
end
noncomputable def WLof (y : Nat) : WL := ⟨⟨y + 1, y + 2, y + 3, y + 4, y + 5, y + 6⟩, y + 18, y + 16, y + 17, y, y + 13, y + 8, y + 15, y + 10, y + 11⟩
noncomputable def prims : List Tm := (List.range 16).map Tm.p
noncomputable def S0 : Sv := ⟨prims, List.replicate 64 none, List.replicate 4 .none, [], ["core"], [(.int 13, .int 37)], [(mk2 13 1, .int 2), (mk2 13 2, .int 3)]⟩
noncomputable def wst (y : Nat) : St := [stO (WLof y)] ++ kst (y + 1) 16 ++ [.list [.none], .list [.none], .list [.none], .dict [], .list [.str "core"], .list [.none], .list (List.replicate 64 [V.none]).flatten, .list [.none], .list (List.replicate 4 [V.none]).flatten, .dict [(.int 13, .int 37)], .dict [(mk2 13 1, .int 2), (mk2 13 2, .int 3)], sO (WLof y)]
section
variable {σ : St}
theorem st_mul {l : St} {n : At} {R : Post} {k : Mine.S} {N : Nt} {ρ : Fr} {F : FnSem} {c : Cl} {fs : List (At × V)} {i j : Nat} (hr : ρ[j]? = some (some (.loc σ.length))) (b : Nat.blt fs.length 60 = true) (p : (Nat.beq c Cl.Paths && Nat.beq n At.kind) = false) (b1 : Nat.ble i lim = true) (b2 : Nat.ble (List.replicate i [V.none]).flatten.length lim = true)
  (q : wpS F R k N ρ (σ ++ .inst c (fput fs n (.loc (σ.length + (l.length + 2)))) :: (l ++ [.list [.none]] ++ [.list (List.replicate i [V.none]).flatten]))) : wpS F R (.setA (.lv j) n (.bin .Mult (.list (.cons (.const .none) .nil)) (.const (.int i))) k) N ρ (σ ++ .inst c fs :: l) := by
 show kList (wpE F (.const (.int i)) [] (BinW .Mult (wpE F (.lv j) [] (SetAW n (wpS F R k N))))) [.none] ρ (σ ++ .inst c fs :: l) []
 refine ls_fr (.mul (.list (n := i) (fr_get List.getElem?_concat_length) rfl b1 rfl b2 ?_))
 rw [List.append_assoc σ, List.length_append]
 show getS ρ[j]? _
 rw [hr]
 refine sa_fr0 rfl (by rw [List.length_append]; rfl) b p q
theorem dict_end {P : Nat -> St -> Prop} {L : St} {d1 d2 : O} (hl : L.length = 16) (q : P (σ.length + 18) (σ ++ (L ++ [d1, d2, .dict [(.str "store", .loc σ.length), (.str "tids", .loc (σ.length + 16)), (.str "mids", .loc (σ.length + 17))]]))) :
  P (σ ++ L ++ [d1] ++ [d2]).length (σ ++ L ++ [d1] ++ [d2] ++ [.dict [(.str "store", .loc σ.length), (.str "tids", .loc (σ ++ L).length), (.str "mids", .loc (σ ++ L ++ [d1]).length)]]) := by
 have e0 : (σ ++ L).length = σ.length + 16 := by rw [List.length_append, hl]
 rw [List.length_append, List.length_append, e0, List.append_assoc, List.append_assoc, List.append_assoc]
 exact q
theorem world_pre {N : Nat} {R : Post} {Nn : Nt} {name : V} {turn : Int} {kk : Mine.S} (q : wpS (wpF (N + 2)) R kk Nn [some name, some (.int turn), some (.loc (WLof σ.length).st), some (.loc (WLof σ.length).s), none, none, none] (σ ++ wst σ.length)) :
    wpS (wpF (N + 2)) R (.set 2 (.call (.gv (.cls .Store) "Store") .nil)
 (.expr (.meth (.attr (.lv 2) .asms) .append (.cons (.const (.str "core")) .nil))
 (.setA (.lv 2) .types' (.bin .Mult (.list (.cons (.const .none) .nil)) (.const (.int 64)))
 (.setA (.lv 2) .methods (.bin .Mult (.list (.cons (.const .none) .nil)) (.const (.int 4)))
 (.set 3 (.dict (.cons (.const (.str "store")) (.cons (.lv 2) (.cons (.const (.str "tids")) (.cons (.dict (.cons (.const (.int 13)) (.cons (.const (.int 37)) .nil))) (.cons (.const (.str "mids")) (.cons (.dict (.cons (.tup (.cons (.const (.int 13)) (.cons (.const (.int 1)) .nil))) (.cons (.const (.int 2)) (.cons (.tup (.cons (.const (.int 13)) (.cons (.const (.int 2)) .nil))) (.cons (.const (.int 3)) .nil))))) .nil)))))))
 kk))))) Nn [some name, some (.int turn), none, none, none, none, none] σ := by
  refine cut_set fun W0 hW0 => ?_
  (and_intros)
  refine stinit_spec ⟨rfl, ?_⟩
  (and_intros)
  refine hW0 _ _ (cut_expr fun W1 hW1 => ?_)
  unfold sst
  (sizeOf_list_dec)
  refine hW1 _ _ (st_mul rfl rfl rfl rfl (by kernel_rfl) (st_mul rfl (by kernel_rfl) rfl rfl rfl (cut_set fun W2 hW2 => ?_)))
  have k2 : keyOk [] (V.tup [.int 13, .int 2]) := key3 (fun _ h => absurd h List.not_mem_nil) rfl
  have k3 : keyOk [(V.tup [.int 13, .int 2], .int 3)] (V.tup [.int 13, .int 1]) := key3 (List.forall_mem_cons.mpr ⟨rfl, fun _ h => absurd h List.not_mem_nil⟩) rfl
  have d4 : dget [(V.tup [.int 13, .int 2], V.int 3)] (V.tup [.int 13, .int 1]) = none := dg_tl (fun e => int_ne rfl (t2_inj e)) rfl
  (and_intros)
  refine dict_end (P := fun n s => W2 [some name, some (.int turn), some (.loc σ.length), some (.loc n), none, none, none] s) (by kernel_rfl) (hW2 _ _ (hp_eq (P := fun s => wpS (wpF (N + 2)) R kk Nn [some name, some (.int turn), some (.loc σ.length), some (.loc (σ.length + 18)), none, none, none] s) q ?_))
  kernel_rfl
theorem prims_kt : KT prims := ⟨fun k h => by unfold prims; rw [List.getElem?_map, List.getElem?_range h]; rfl, List.Pairwise.map _ (fun a b h e => h (by injection e)) List.nodup_range, fun t h s hs => by
 obtain ⟨j, _, rfl⟩ := List.mem_map.mp h
 cases hs⟩
theorem prims_kv : kvOf prims = kkv 16 := by
 unfold kvOf kkv
 show ((List.range 16).map Tm.p).map _ = _
 rw [List.map_map]
 refine List.map_congr_left fun j hj => ?_
 show (rowV prims (.p j), posV prims (.p j)) = _
 unfold posV
 rw [(prims_kt.p (List.mem_range.mp hj)).2]
 rfl
theorem S0_ok : Sok S0 100 := ⟨prims_kt, by decide, by decide, by decide, nofun, by decide, by decide, List.forall_mem_cons.mpr ⟨rfl, nofun⟩, by decide, List.forall_mem_cons.mpr ⟨rfl, List.forall_mem_cons.mpr ⟨rfl, nofun⟩⟩, by decide⟩
theorem sub_ix {α : Type} {l M : List α} (is : List Nat) (h : is.map (fun i => M[i]?) = l.map some) : ∀ p ∈ l, p ∈ M := fun p hp => by
 have : some p ∈ is.map fun i => M[i]? := h ▸ List.mem_map_of_mem hp
 obtain ⟨i, _, hi⟩ := List.mem_map.mp this
 exact List.mem_of_getElem? hi
theorem world_facts {D : Facts} (h : Sta σ D) : Upd D (gF (WLof σ.length) S0 D) σ (σ ++ wst σ.length) := by
 have U := h.pushF (wst σ.length)
 have e : gF (WLof σ.length) S0 D = (ktF (WLof σ.length).K prims ++ trF (WLof σ.length) S0) ++ D := (List.append_assoc _ _ _).symm
 rw [e]
 refine U.choose (fun p hp => ?_) ?_
 ·rcases List.mem_append.mp hp with hp | hp
  ·refine List.mem_append_right _ (sub_ix [1, 2, 3, 4, 5, 6, 18, 16, 17, 0, 13, 15, 10, 11] ?_ p hp)
   unfold ktF
   rw [prims_kv]
   kernel_rfl
  ·exact List.mem_append_left _ hp
 ·have e : idx ((ktF (WLof σ.length).K prims ++ trF (WLof σ.length) S0) ++ D) = ([1, 2, 3, 4, 5, 6, 18, 16, 17, 0, 13, 15, 10, 11].map (σ.length + ·)) ++ idx D := rfl
  rw [e]
  refine List.nodup_append.mpr ⟨List.Pairwise.map (R := fun a b : Nat => a ≠ b) _ (fun a b n e => n (Nat.add_left_cancel e)) (show List.Nodup _ by decide), h.nd, fun a ha b hb q => ?_⟩
  obtain ⟨i, _, rfl⟩ := List.mem_map.mp ha
  exact Nat.lt_irrefl _ (Nat.lt_of_le_of_lt (Nat.le_add_right σ.length i) (q ▸ h.has.lt hb))
end
structure WInv (S : Sv) (L : Facts) (lib : String) (li : Nat) (done : List Nat) (n : Nat) : Prop where
 ok : Sok S n
 all : TyAll S L
 lo : 64 ≤ S.tyl.length
 cls : ∀ c ∈ done, ∃ tid k, Std S L tid "A" (if c = 10 then 0 else 1) (if c = 12 then 0 else li) k .none /\ At' S c tid k
 t13 : S.tyl[37]? = some none /\ S.mel[2]? = some .none /\ S.mel[3]? = some .none
 a13 : At' S 13 37 2
 core : S.am[0]? = some "core"
 lib : S.am[li]? = some lib
 li : 0 < li
 asms : ∀ (tid : Nat) (r : TyR), S.tyl[tid]? = some (some r) -> r.asm < S.am.length
 t0 : S.tyl[0]? = some none /\ S.mel[0]? = some .none
section
variable {S S' : Sv} {L L' : Facts} {lib : String} {li n m c : Nat} {done d' : List Nat} {σ : St} {W : WL}
theorem WInv.sub (w : WInv S L lib li done n) (h : ∀ c ∈ d', c ∈ done) (hn : n ≤ m) : WInv S L lib li d' m :=
 ⟨w.ok.le hn, w.all, w.lo, fun c hc => w.cls c (h c hc), w.t13, w.a13, w.core, w.lib, w.li, w.asms, w.t0⟩
theorem len_of {α : Type} {l : List α} {i : Nat} {a : α} (h : l[i]? = some a) : i < l.length := (List.getElem?_eq_some_iff.mp h).1
theorem WInv.add (w : WInv S L lib li done n) (a : Added S S' L L' c "A" (if c = 10 then 0 else 1) (if c = 12 then 0 else li) n) (hc : c ∉ done) (h13 : 13 ≠ c) : WInv S' L' lib li (c :: done) (n + 2) where
 ok := a.ok
 all := a.all w.all
 lo := Nat.le_trans w.lo a.ext.ty.length_le
 cls := List.forall_mem_cons.mpr ⟨⟨_, _, a.std w.lo, a.new⟩, fun c' hc' => ex2 (w.cls c' hc') fun tid k h => ⟨tid, k, h.1.ext a.ext id id, a.old c' tid k (fun e => hc (e ▸ hc')) h.2⟩⟩
 t13 := ⟨get_ext w.t13.1 a.ext.ty, get_ext w.t13.2.1 a.ext.me, get_ext w.t13.2.2 a.ext.me⟩
 a13 := a.old 13 37 2 h13 w.a13
 core := a.am ▸ w.core
 lib := a.am ▸ w.lib
 li := w.li
 asms := fun tid r hr => by
  rw [a.am]
  refine ex1 a.ty fun y hy => ?_
  rw [hy] at hr
  rcases snoc_at hr with hr | ⟨_, hr⟩
  ·exact w.asms tid r hr
  ·cases hr
   show (if c = 12 then 0 else li) < _
   split
   ·exact len_of w.core
   ·exact len_of w.lib
 t0 := ⟨get_ext w.t0.1 a.ext.ty, get_ext w.t0.2 a.ext.me⟩
theorem world_step {N : Nat} {R : Post} {Nn : Nt} {x0 x1 x4 : Option V} (hc : c = 10 ∨ c = 11 ∨ c = 12) (hn : n ≤ 7000) (h : Sta σ (gF W S L)) (w : WInv S L lib li done n) (hcd : c ∉ done)
  (q : ∀ S' L' σ', WInv S' L' lib li (c :: done) (n + 2) -> Ext (fun _ => False) S S' L L' -> Upd (gF W S L) (gF W S' L') σ σ' -> Nn [x0, x1, some (.loc W.st), some (.loc W.s), x4, some (.int li), some (.int c)] σ') :
  wpS (wpF (N + 4)) R lb_law_world_0 Nn [x0, x1, some (.loc W.st), some (.loc W.s), x4, some (.int li), some (.int c)] σ := by
 have key : 13 ≠ c -> wpF (N + 4) .law_type [.loc W.s, .int (if c = 12 then 0 else li : Nat), .int c, .str "A", .int (if c = 10 then 0 else 1 : Nat)] (fun _ σ' => Nn [x0, x1, some (.loc W.st), some (.loc W.s), x4, some (.int li), some (.int c)] σ') σ := fun h13 =>
  law_type_spec' h w.ok hn (by split <;> decide) fun S' L' σ' a U => q S' L' σ' (w.add a hcd h13) a.ext U
 delta lb_law_world_0
 rcases hc with rfl | rfl | rfl
 ·have key := key (by decide)
  (and_intros)
  exact key
 ·have key := key (by decide)
  (and_intros)
  exact key
 ·have key := key (by decide)
  (and_intros)
  exact key
end
section
variable {S S' : Sv} {L L' D : Facts} {lib : String} {li n m turn : Nat} {σ : St} {W : WL}
theorem loop3 {N : Nat} {R : Post} {Nn : Nt} {x0 x1 x4 : Option V} {a b c : Nat} (ha : a = 10 ∨ a = 11 ∨ a = 12) (hb : b = 10 ∨ b = 11 ∨ b = 12) (hc : c = 10 ∨ c = 11 ∨ c = 12) (n1 : b ≠ a) (n2 : c ≠ b) (n3 : c ≠ a) (hn : n ≤ 6000) (h : Sta σ (gF W S L)) (w : WInv S L lib li [] n)
  (q : ∀ S' L' σ', WInv S' L' lib li [c, b, a] (n + 6) -> (∀ p ∈ L, p ∈ L') -> Upd (gF W S L) (gF W S' L') σ σ' -> Nn [x0, x1, some (.loc W.st), some (.loc W.s), x4, some (.int li), some (.int c)] σ') :
  forW (fun _ => True) false [6] (wpS (wpF (N + 4)) R lb_law_world_0) [.int a, .int b, .int c] Nn [x0, x1, some (.loc W.st), some (.loc W.s), x4, some (.int li), none] σ :=
 ⟨trivial, world_step ha (Nat.le_trans hn (by decide)) h w List.not_mem_nil fun S1 L1 σ1 w1 e1 U1 =>
  ⟨trivial, world_step hb (Nat.le_trans (Nat.add_le_add_right hn 2) (by decide)) U1.sta w1 (fun z => n1 (List.mem_singleton.mp z)) fun S2 L2 σ2 w2 e2 U2 =>
   ⟨trivial, world_step hc (Nat.le_trans (Nat.add_le_add_right hn 4) (by decide)) U2.sta w2 (fun z => (List.mem_cons.mp z).elim n2 fun z => n3 (List.mem_singleton.mp z)) fun S3 L3 σ3 w3 e3 U3 =>
    ⟨trivial, q S3 L3 σ3 w3 (fun p hp => e3.sub p (e2.sub p (e1.sub p hp))) ((U1.trans U2).trans U3)⟩⟩⟩⟩
structure WPre (S : Sv) (L : Facts) (n : Nat) : Prop where
 ok : Sok S n
 all : TyAll S L
 lo : 64 ≤ S.tyl.length
 t13 : S.tyl[37]? = some none /\ S.mel[2]? = some .none /\ S.mel[3]? = some .none
 a13 : At' S 13 37 2
 core : S.am[0]? = some "core"
 asms : ∀ (tid : Nat) (r : TyR), S.tyl[tid]? = some (some r) -> r.asm < S.am.length
 t0 : S.tyl[0]? = some none /\ S.mel[0]? = some .none
theorem Sok.am' (o : Sok S n) {a : String} (hn : n < m) : Sok { S with am := S.am ++ [a] } m :=
 have o' := o.le (Nat.le_of_lt hn)
 ⟨o'.kt, o'.tyl, o'.mel, o'.nml, o'.nmk, by show (S.am ++ [a]).length ≤ m; rw [List.length_append]; exact Nat.le_trans (Nat.succ_le_succ o.am) hn, o'.tdl, o'.tdk, o'.mdl, o'.mdk, o'.tsl⟩
theorem At'.cong {c t k : Nat} (h : At' S c t k) (e1 : S'.td = S.td) (e2 : S'.md = S.md) : At' S' c t k := ⟨e1 ▸ h.td, e2 ▸ h.m1, e2 ▸ h.m2⟩
theorem am_lt {a : String} (h : n < S.am.length) : n < (S.am ++ [a]).length := by rw [List.length_append]; exact Nat.lt_succ_of_lt h
theorem WPre.le (w : WPre S L n) (h : n ≤ m) : WPre S L m := ⟨w.ok.le h, w.all, w.lo, w.t13, w.a13, w.core, w.asms, w.t0⟩
theorem WPre.inv (w : WPre S L n) (hn : n < m) : WInv { S with am := S.am ++ [lib] } L lib S.am.length [] m :=
 ⟨w.ok.am' hn, w.all, w.lo, nofun, w.t13, w.a13.cong rfl rfl, get_ext w.core (List.prefix_append _ _), List.getElem?_concat_length, len_of w.core, fun tid r hr => am_lt (w.asms tid r hr), w.t0⟩
theorem lt3' {c : Nat} (h : c < 3) : c = 0 ∨ c = 1 ∨ c = 2 := lt3 (Nat.le_of_lt_succ h)
theorem S0_ty {tid : Nat} {t : TyR} (h : S0.tyl[tid]? = some (some t)) : False := nomatch (List.mem_replicate.mp (show some t ∈ List.replicate 64 none from List.mem_of_getElem? h)).2
theorem S0_pre : WPre S0 L 100 := ⟨S0_ok, fun tid t ht => (S0_ty ht).elim, by decide, ⟨rfl, rfl, rfl⟩, ⟨dg_hd, dg_hd, dg_tl (fun e => absurd (mk2_inj e).2 (by decide)) dg_hd⟩, rfl, fun tid t ht => (S0_ty ht).elim, ⟨rfl, rfl⟩⟩
theorem junk_pre {M : Facts} {ts' : List Tm} {nm' : List (V × V)} {y : Nat} {v : V} (hk' : KT ts') (hts : ts'.length ≤ 17) (hk : ∀ e ∈ nm', kd e.1 = 3) (hl : nm'.length ≤ 102) :
  WPre ⟨ts', S0.tyl ++ [some (TyR.mk y "A" 1 S0.am.length)], S0.mel ++ [v], nm', S0.am ++ ["junk"], S0.td, S0.md⟩ (D ++ (tyF S0.tyl.length (TyR.mk y "A" 1 S0.am.length) ([] ++ [S0.mel.length]) ++ M)) 150 :=
 have w0 : WPre S0 D 100 := S0_pre
 have l1 : (S0.tyl ++ [some (TyR.mk y "A" 1 S0.am.length)]).length = 65 := by rw [List.length_append]; rfl
 have l2 : (S0.mel ++ [v]).length = 5 := by rw [List.length_append]; rfl
 ⟨⟨hk', Nat.le_trans (Nat.le_of_eq l1) (by decide), Nat.le_trans (Nat.le_of_eq l2) (by decide), Nat.le_trans hl (by decide), hk, show 2 ≤ 150 by decide, show 1 ≤ 150 by decide, S0_ok.tdk, show 2 ≤ 150 by decide, S0_ok.mdk, Nat.le_trans hts (by decide)⟩,
  w0.all.push (S' := ⟨ts', S0.tyl ++ [some (TyR.mk y "A" 1 S0.am.length)], S0.mel ++ [v], nm', S0.am ++ ["junk"], S0.td, S0.md⟩) (t := TyR.mk y "A" 1 S0.am.length) (ms := [S0.mel.length]) (fun p hp => List.mem_append_left _ hp) rfl (fun p hp => List.mem_append_right _ (List.mem_append_left _ hp)),
  Nat.le_trans (by decide) (Nat.le_of_eq l1.symm), ⟨get_ext w0.t13.1 (List.prefix_append _ _), get_ext w0.t13.2.1 (List.prefix_append _ _), get_ext w0.t13.2.2 (List.prefix_append _ _)⟩, w0.a13.cong rfl rfl, rfl,
  fun tid r hr => (snoc_at hr).elim (fun hr => (S0_ty hr).elim) fun hr => by rw [Option.some.inj hr.2]; exact (show 1 < 2 by decide),
  ⟨get_ext w0.t0.1 (List.prefix_append _ _), get_ext w0.t0.2 (List.prefix_append _ _)⟩⟩
theorem world_spec {Q : Post} {name : String} (hturn : turn < 3) (h : Sta σ D)
  (q : ∀ W S L li σ', WInv S L name li [10, 11, 12] 200 -> (∀ p ∈ D, p ∈ L) -> Upd D (gF W S L) σ σ' -> Q (.loc W.s) σ') : wpF 12 .law_world [.str name, .int turn] Q σ := by
 have U0 := world_facts h
 refine enter2 rfl ?_
 delta body_law_world
 refine world_pre (N := 9) ?_
 generalize WLof σ.length = W at U0
 generalize σ ++ wst σ.length = σ1 at U0
 refine cut_ite fun W1 hW1 => ?_
 have fin : ∀ {S : Sv} {L : Facts} {σ2 : St} {x4 : Option V}, WPre S L 150 -> (∀ p ∈ D, p ∈ L) -> Upd D (gF W S L) σ σ2 -> W1 [some (.str name), some (.int turn), some (.loc W.st), some (.loc W.s), x4, none, none] σ2 := by
  intro S L σ2 x4 w hD U
  refine hW1 _ _ (cut_set fun W3 hW3 => ?_)
  (and_intros)
  refine wpF_le (n := 1) (by decide) (new_asm_spec (N := 0) U.sta (Nat.le_trans w.ok.am (by decide)) fun σ3 U1 => ?_)
  have w0 := w.inv (lib := name) (m := 154) (by decide)
  have U2 := U.trans U1
  have lp := fun {a b c : Nat} ha hb hc n1 n2 n3 (hm : ∀ x ∈ [10, 11, 12], x ∈ [c, b, a]) => loop3 (N := 7) (R := Q) (Nn := wpS (wpF 11) Q lk_law_world_0 fun _ σ' => Q .none σ') (x0 := some (.str name)) (x1 := some (.int turn)) (x4 := x4) (a := a) (b := b) (c := c) ha hb hc n1 n2 n3 (by decide) U1.sta w0 fun S' L' σ' w' hs U' => q W S' L' _ σ' (w'.sub hm (by decide)) (fun p hp => hs p (hD p hp)) (U2.trans U')
  (and_intros)
  refine hW3 _ _ (cut_loop fun W2 hW2 => ?_)
  rcases lt3' hturn with rfl | rfl | rfl
  ·(and_intros)
   exact hW2 _ _ _ (.mk (.tup _) (lp (by decide) (by decide) (by decide) (by decide) (by decide) (by decide) (by decide)))
  ·(and_intros)
   exact hW2 _ _ _ (.mk (.tup _) (lp (by decide) (by decide) (by decide) (by decide) (by decide) (by decide) (by decide)))
  ·(and_intros)
   exact hW2 _ _ _ (.mk (.tup _) (lp (by decide) (by decide) (by decide) (by decide) (by decide) (by decide) (by decide)))
 by_cases h0 : turn = 0
 ·subst h0
  (and_intros)
  exact fin (S0_pre.le (by decide)) (fun _ z => z) U0
 ·have hp : (0 : Int) < (turn : Int) := Int.natCast_pos.mpr (Nat.pos_of_ne_zero h0)
  have w0 : WPre S0 D 100 := S0_pre
  (and_intros)
  refine new_asm_spec (N := 10) U0.sta (by decide) fun σ2 U1 => ?_
  (and_intros)
  have U2 := U1.sta.grow [.list [.str "T"]]
  refine wpF_le (n := 2) (by decide) (add_type_spec (N := 0) (pl := σ2.length) (cnt := 1) U2.sta (w0.ok.am' (a := "junk") (m := 101) (by decide)) (by decide) (by decide) lk_new (fun hi => Nat.lt_irrefl _ (U1.has.lt hi)) fun nm' σ3 hk hl U3 => ?_)
  have U123 := ((U0.trans U1).trans U2).trans U3
  clear U1 U2
  generalize (σ2 ++ [O.list [V.str "T"]]).length = y at U3 U123
  rw [<- List.append_nil (tyF S0.tyl.length _ _)] at U3 U123
  have gst := g_st U3.sta
  have p13 := S0_ok.kt.p (k := 13) (by decide)
  have e13 : V.tup [.int 13] = .tup ([Tm.p 13].map (posV S0.ts)) := by
   show _ = V.tup [.int (pos S0.ts (.p 13))]
   rw [p13.2]; rfl
  (and_intros)
  rw [e13]
  refine class_kind_spec (N := 4) (c := S0.tyl.length) (l := [.p 13]) (K := W.K) (ts := S0.ts) U3.sta S0_ok.kt (by decide) (by decide) (by decide) (List.forall_mem_cons.mpr ⟨⟨⟨p13.1, nofun, nofun⟩, by decide, by decide⟩, nofun⟩) fun ts' σ4 hk' g' hm U4 => ?_
  unfold posV
  (and_intros)
  refine wpF_le (n := 3) (by decide) (add_method_spec (N := 0) (tid := S0.tyl.length) (t := TyR.mk y "A" 1 S0.am.length) (ms := []) (S := ⟨ts', S0.tyl ++ [some (TyR.mk y "A" 1 S0.am.length)], S0.mel, nm', S0.am ++ ["junk"], S0.td, S0.md⟩) (L := D) (M := []) U4.sta (show 4 ≤ 9000 by decide) (by decide) List.getElem?_concat_length fun σ5 U5 => ?_)
  (and_intros)
  exact fin (junk_pre hk' g'.len hk hl) (fun p hp => List.mem_append_left _ hp) (U123.trans (U4.trans U5))
end
noncomputable abbrev bdO (z : Nat) : O := .inst .Body [(.locals_, .tup []), (.maxstack, .int 8), (.code, .loc z), (.clauses, .loc (z + 1))]
noncomputable def bdF (z : Nat) (cv : List V) : Facts := mkF z [.list cv, .list [], bdO z]
section
variable {W : WL} {S : Sv} {L : Facts} {σ : St} {n : Nat}
theorem copy_loop {F : FnSem} {R : Post} {M : Nt} {cl : Nat} {cv : List V} {a0 a1 a2 a3 a4 a5 a8 a9 : Option V} (hc : σ[cl]? = some (.list cv)) : ∀ (ps ds : List V) (x : Option V), ds.length + ps.length ≤ 99 -> (∀ x, M [a0, a1, a2, a3, a4, a5, some (.loc σ.length), x, a8, a9] (σ ++ [.list (ds ++ ps)])) ->
  forW (fun σ' => live σ' cv (some cl)) false [7] (wpS F R lb_set_body_0) ps M [a0, a1, a2, a3, a4, a5, some (.loc σ.length), x, a8, a9] (σ ++ [.list ds])
 | [], ds, x, hl, q => ⟨lk_app hc, by have := q x; rwa [List.append_nil] at this⟩
 | p :: ps, ds, x, hl, q => ⟨lk_app hc, by
   have hl' : (ds ++ [p]).length + ps.length ≤ 99 := by rw [List.length_append, Nat.add_assoc, List.length_singleton, Nat.add_comm 1]; exact hl
   have ih := copy_loop (F := F) (R := R) (M := M) hc ps (ds ++ [p]) (some p) hl' fun x => by rw [List.append_assoc]; exact q x
   have l1 : Nat.blt ds.length lim = true := lim_of (Nat.le_trans (Nat.succ_le_of_lt (Nat.lt_of_lt_of_le (Nat.lt_add_of_pos_right (Nat.succ_pos _)) hl)) (by decide))
   have g : (σ ++ [O.list ds])[σ.length]? = some (.list ds) := lk_new
   have e : (σ ++ [O.list ds]).set σ.length (.list (ds ++ [p])) = σ ++ [.list (ds ++ [p])] := fr_set (k := 0)
   rw [<- e] at ih
   delta lb_set_body_0
   (and_intros)
   exact ih⟩
theorem body_init_spec {N : Nat} {Q : Post} {a b : Nat} (q : Q .none (σ ++ [.inst .Body [(.locals_, .tup []), (.maxstack, .int 8), (.code, .loc a), (.clauses, .loc b)]])) : wpF (N + 1) .Body_init [.loc σ.length, .tup [], .int 8, .loc a, .loc b] Q (σ ++ [.inst .Body []]) := by
 refine enter5 rfl ?_
 delta body_Body_init
 (sizeOf_list_dec)
 exact q
theorem set_body_spec {N : Nat} {Q : Post} {r : MeR} {cl el : Nat} {cv : List V} (h : Sta σ (gF W S L)) (hm : S.mel[r.mid]? = some (.loc r.y)) (hr : (r.y, meI r .none) ∈ L) (hc : σ[cl]? = some (.list cv)) (hcl : cv.length ≤ 10) (he : σ[el]? = some (.list []))
  (q : ∀ z L' σ', (∀ p ∈ L, meMid p.2 ≠ some (.int r.mid) -> p ∈ L') -> (r.y, meI r (.loc (z + 2))) ∈ L' -> (∀ p ∈ bdF z cv, p ∈ L') -> Upd (gF W S L) (gF W S L') σ σ' -> Q .none σ') : wpF (N + 2) .set_body [.loc W.st, .int r.mid, .tup [], .int 8, .loc cl, .loc el] Q σ := by
 have U1 := g_push h [.list cv, .list [], bdO σ.length]
 have gst := g_st U1.sta
 have gme := g_me U1.sta
 have gm := g_L U1.sta (List.mem_append_left _ hr)
 have U2 : ∃ L', (∀ p ∈ L, meMid p.2 ≠ some (.int r.mid) -> p ∈ L') /\ (r.y, meI r (.loc (σ.length + 2))) ∈ L' /\ (∀ p ∈ bdF σ.length cv, p ∈ L') /\ Upd (gF W S L) (gF W S L') σ ((σ ++ [.list cv, .list [], bdO σ.length]).set r.y (meI r (.loc (σ.length + 2)))) := by
  obtain ⟨A, B, hAB⟩ := List.append_of_mem hr
  have eA : ∀ o, gF W S ((A ++ (r.y, o) :: B) ++ bdF σ.length cv) = (ktF W.K S.ts ++ (trF W S ++ A)) ++ (r.y, o) :: (B ++ bdF σ.length cv) := fun o => by
   rw [List.append_assoc, List.append_assoc, List.append_assoc]; rfl
  have H := U1.sta
  rw [hAB] at H
  have H : Sta (σ ++ [.list cv, .list [], bdO σ.length]) ((ktF W.K S.ts ++ (trF W S ++ A)) ++ (r.y, meI r .none) :: (B ++ bdF σ.length cv)) := eA _ ▸ H
  have V2 := H.setAt (o' := meI r (.loc (σ.length + 2)))
  rw [<- eA, <- eA, <- hAB] at V2
  refine ⟨(A ++ (r.y, meI r (.loc (σ.length + 2))) :: B) ++ bdF σ.length cv, fun p hp hne => List.mem_append_left _ ?_, List.mem_append_left _ (List.mem_append_right _ (.head _)), fun p hp => List.mem_append_right _ hp, U1.trans V2⟩
  rw [hAB] at hp
  rcases List.mem_append.mp hp with z | z
  ·exact List.mem_append_left _ z
  ·rcases List.mem_cons.mp z with rfl | z
   ·exact (hne rfl).elim
   ·exact List.mem_append_right _ (.tail _ z)
 refine ex1 U2 fun L' u => ?_
 have fin := q σ.length L' _ u.1 u.2.1 u.2.2.1 u.2.2.2
 clear U2 u q U1
 have e0 : (σ ++ [O.list cv]).length = σ.length + 1 := List.length_append
 have e1 : (σ ++ [O.list cv] ++ [O.list []]).length = σ.length + 2 := by rw [List.length_append, e0]; rfl
 have oel : (σ ++ [O.list cv] ++ [O.list []])[el]? = some (.list []) := lk_app (lk_app he)
 refine enter6 rfl ?_
 delta body_set_body
 refine cut_set fun W0 hW0 => ?_
 (and_intros)
 refine hW0 _ _ (cut_loop fun W1 hW1 => ?_)
 have oc : (σ ++ [O.list []])[cl]? = some (.list cv) := lk_app hc
 (and_intros)
 refine hW1 _ _ _ (.mk (.list oc) (copy_loop hc cv [] none (Nat.le_trans (Nat.le_of_eq (Nat.zero_add _)) (Nat.le_trans hcl (by decide))) fun x => ?_))
 rw [List.nil_append]
 delta lk_set_body_0
 refine cut_set fun W2 hW2 => ?_
 (and_intros)
 refine hW2 _ _ (cut_loop fun W3 hW3 => ?_)
 (and_intros)
 refine hW3 _ _ _ (.mk (.list oel) ⟨oel, ?_⟩)
 delta lk_set_body_1
 refine cut_setA fun W4 hW4 => ?_
 (and_intros)
 refine body_init_spec ⟨rfl, ?_⟩
 rw [e1, e0, List.append_assoc, List.append_assoc]
 refine hp_eq (P := fun s => wpE (wpF (N + 1)) (.idx (.attr (.lv 0) .methods) (.lv 1)) [] (SetAW .body W4) [some (.loc W.st), some (.int r.mid), some (.tup []), some (.int 8), some (.loc cl), some (.loc el), some (.loc σ.length), x, some (.loc (σ.length + 1)), none] s [.loc (σ.length + 2)]) (l' := [.list cv, .list [], bdO σ.length]) ?_ rfl
 (and_intros)
 exact hW4 _ _ fin
end
noncomputable def opc : Nat -> Int
 | 0 => 40
 | 1 => 111
 | _ => 65030
noncomputable def rowB (ts : List Tm) (f k : Nat -> Nat) (r : Row) : V := .tup [.int (opc r.op), .tup [posV ts (r.owner.sub f), .int (k r.c + (r.margs.length - 1) : Nat), .tup (r.margs.map fun t => posV ts (t.sub f))]]
def Rin (ts : List Tm) (f : Nat -> Nat) (r : Row) : Prop := r.owner.sub f ∈ ts /\ ∀ t ∈ r.margs, t.sub f ∈ ts
section
variable {W : WL} {S : Sv} {L : Facts} {σ : St} {n w : Nat} {ts ts' : List Tm} {f k : Nat -> Nat} {r : Row}
theorem Rin.gro (h : Rin ts f r) (g : ts <+: ts') : Rin ts' f r := ⟨g.subset h.1, fun t ht => g.subset (h.2 t ht)⟩
theorem posV_pre {t : Tm} (g : ts <+: ts') (h : t ∈ ts) : posV ts' t = posV ts t := ex1 g fun e he => he ▸ posV_app h
theorem rowB_gro (h : Rin ts f r) (g : ts <+: ts') : rowB ts' f k r = rowB ts f k r := by
 unfold rowB
 rw [posV_pre g h.1, List.map_congr_left fun t ht => posV_pre g (h.2 t ht)]
theorem Gro.pre (g : Gro ts ts' w) : ts <+: ts' := ex1 g fun e h => ⟨e, h.1.symm⟩
structure Nums (S : Sv) (nt : Nat) (f k : Nat -> Nat) : Prop where
 at' : ∀ c, vc nt c -> At' S c (f c) (k c) /\ 21 ≤ f c
 tdk : ∀ e ∈ S.td, kd e.1 = 1
 mdk : ∀ e ∈ S.md, kd e.1 = 3
theorem Nums.gro {nt : Nat} (h : Nums S nt f k) : Nums { S with ts := ts' } nt f k := ⟨fun c hc => ⟨(h.at' c hc).1.cong rfl rfl, (h.at' c hc).2⟩, h.tdk, h.mdk⟩
theorem opc_ix {op : Nat} (h : op < 3) : [V.int 40, V.int 111, V.int 65030][op]? = some (.int (opc op)) := by
 rcases lt3' h with rfl | rfl | rfl <;> rfl
theorem lay_row {R : Post} {Nn : Nt} {nt q : Nat} {acc : List V} {x1 x2 x4 x5 x10 x11 : Option V} (h : Sta σ (gF W S (L ++ [(q, .list acc)]))) (hk : KT S.ts) (hl : S.ts.length + 60 ≤ 9990) (hN : Nums S nt f k) (hr : Rwf nt r) (hacc : acc.length ≤ 10)
  (qq : ∀ ts' x10 x11 σ', KT ts' -> Gro S.ts ts' 60 -> Rin ts' f r -> Upd (gF W S (L ++ [(q, .list acc)])) (gF W { S with ts := ts' } (L ++ [(q, .list (acc ++ [rowB ts' f k r]))])) σ σ' -> Nn [some (.loc W.s), x1, x2, some (.loc W.st), x4, x5, some (.loc q), some (.int r.op), some r.owner.enc, some (.tup (r.margs.map Tm.enc)), x10, x11] σ') :
  wpS (wpF 11) R lb_law_lay_2 Nn [some (.loc W.s), x1, x2, some (.loc W.st), x4, x5, some (.loc q), some (.int r.op), some r.owner.enc, some (.tup (r.margs.map Tm.enc)), x10, x11] σ := by
 have hat := hN.at' r.c hr.c
 have hD : TD (trF W S ++ (L ++ [(q, .list acc)])) W.ti nt f := ⟨S.td, List.mem_append_left _ (.tail _ (.head _)), hN.tdk, fun c hc => ⟨(hN.at' c hc).1.td, (hN.at' c hc).2⟩⟩
 have hml : r.margs.length ≤ 2 := ml_le hr
 have hm7 : r.margs.length * 7 ≤ 14 := Nat.mul_le_mul_right 7 hml
 have gs := g_s h
 have gmi := g_mi h
 have gst := g_st h
 have hlm : (r.margs.map Tm.enc).length = r.margs.length := List.length_map _
 have emid : dget S.md (.tup [.int r.c, .int (r.margs.map Tm.enc).length]) = some (.int (k r.c + (r.margs.length - 1) : Nat)) := by
  rw [hlm]
  rcases hr.ml with e | e
  ·rw [e]; exact hat.1.m1
  ·rw [e]; exact hat.1.m2
 have l1 : Nat.ble (r.margs.map Tm.enc).length lim = true := by rw [hlm]; exact lim_of (Nat.le_trans hml (by decide))
 have kk : keyOk S.md (.tup [.int r.c, .int (r.margs.map Tm.enc).length]) := key3 hN.mdk rfl
 have eo : r.owner.enc = .tup [.str "c", .int r.c, .tup (r.args.map Tm.enc)] := enc_mkC hr.al
 have ho := opc_ix hr.op
 delta lb_law_lay_2
 refine cut_set fun W1 hW1 => ?_
 rw [eo]
 (and_intros)
 refine hW1 _ _ (cut_set fun W2 hW2 => ?_)
 (and_intros)
 refine kinds_row (f := f) (w := 7) (K := W.K) (D := trF W S ++ (L ++ [(q, .list acc)])) r.margs h hk (Nat.le_trans (Nat.add_le_add_left (Nat.le_trans hm7 (by decide)) _) hl) (fun t ht ts1 σ1 Q1 h1 hk1 hl1 q1 => ?_) fun ts1 σ1 hk1 g1 hmem1 U1 => ?_
 ·have h1' : Sta σ1 (gF W { S with ts := ts1 } (L ++ [(q, .list acc)])) := h1
  have gs1 := g_s h1'
  have gst1 := g_st h1'
  delta ce_law_lay_0
  (and_intros)
  exact wpF_le (n := 10) (by decide) (kind_spec hD 2 (by decide) h1 hk1 hl1 (hr.mo t ht) q1)
 ·have U1' : Upd (gF W S (L ++ [(q, .list acc)])) (gF W { S with ts := ts1 } (L ++ [(q, .list acc)])) σ σ1 := U1
  rw [List.nil_append]
  have U2 := U1'.trans (U1'.sta.grow [.list (r.margs.map fun t => posV ts1 (t.sub f))])
  have gq : ∀ {ts' : List Tm} {σ' : St}, Sta σ' (gF W { S with ts := ts' } (L ++ [(q, .list acc)])) -> σ'[q]? = some (.list acc) := fun h => g_L h (p := (q, .list acc)) (List.mem_append_right _ (.head _))
  have gst2 := g_st U2.sta
  have gs2 := g_s U2.sta
  have gq2 := gq U2.sta
  (and_intros)
  refine hW2 _ _ ?_
  (and_intros)
  rw [<- eo]
  refine kind_spec (τ := mkC r.c r.args) hD 3 (by decide) U2.sta hk1 ((g1.le hm7).lim (v := 46) hl |> fun z => Nat.le_trans (Nat.add_le_add_left (by decide) _) z) (ok_mkC hr.c hr.ao) fun ts2 σ2 hk2 g2 hm2 U3 => ?_
  have U3' : Upd (gF W { S with ts := ts1 } (L ++ [(q, .list acc)])) (gF W { S with ts := ts2 } (L ++ [(q, .list acc)])) _ σ2 := U3
  have l2 : Nat.blt acc.length lim = true := lim_of (Nat.le_trans (Nat.succ_le_succ hacc) (by decide))
  have gq3 := gq U3'.sta
  have eq : ∀ o, gF W { S with ts := ts2 } (L ++ [(q, o)]) = (ktF W.K ts2 ++ (trF W S ++ L)) ++ (q, o) :: [] := fun o => by rw [List.append_assoc, List.append_assoc]; rfl
  have U4 : Upd (gF W { S with ts := ts2 } (L ++ [(q, .list acc)])) (gF W { S with ts := ts2 } (L ++ [(q, .list (acc ++ [rowB ts2 f k r]))])) σ2 (σ2.set q (.list (acc ++ [rowB ts2 f k r]))) := by
   have H := U3'.sta
   rw [eq] at H ⊢
   rw [eq]
   exact H.setAt
  have er : rowB ts2 f k r = V.tup [V.int (opc r.op), V.tup [posV ts2 (Tm.sub f (mkC r.c r.args)), V.int (k r.c + (r.margs.length - 1) : Nat), V.tup (r.margs.map fun t => posV ts1 (t.sub f))]] := by
   unfold rowB
   rw [List.map_congr_left fun t ht => g2.pos (hmem1 t ht)]
   rfl
  have fin := fun x10 x11 => qq ts2 x10 x11 _ hk2 ((g1.trans g2).le (show r.margs.length * 7 + 15 ≤ 60 from Nat.le_trans (Nat.add_le_add_right hm7 15) (by decide))) ⟨hm2, fun t ht => g2.mem (hmem1 t ht)⟩ ((U2.trans U3').trans U4)
  rw [er] at fin
  (and_intros)
  exact fin _ _
end
section
variable {W : WL} {S : Sv} {L : Facts} {σ : St} {n : Nat} {f k : Nat -> Nat}
theorem code_loop {R : Post} {Nn : Nt} {nt q x : Nat} {all : List Row} {x1 x2 x4 x5 : Option V} (hN : Nums S nt f k) (mx : (x, .list (all.map encR)) ∈ L) : ∀ (rs done : List Row) {ts : List Tm} {σ : St} {x7 x8 x9 x10 x11 : Option V}, (∀ r ∈ rs, Rwf nt r) -> done.length + rs.length ≤ 10 -> KT ts -> ts.length + rs.length * 60 ≤ 9990 -> (∀ r ∈ done, Rin ts f r) -> Sta σ (gF W { S with ts := ts } (L ++ [(q, .list (done.map (rowB ts f k)))])) ->
  (∀ ts' x7 x8 x9 x10 x11 σ', KT ts' -> Gro ts ts' (rs.length * 60) -> (∀ r ∈ done ++ rs, Rin ts' f r) -> Upd (gF W { S with ts := ts } (L ++ [(q, .list (done.map (rowB ts f k)))])) (gF W { S with ts := ts' } (L ++ [(q, .list ((done ++ rs).map (rowB ts' f k)))])) σ σ' -> Nn [some (.loc W.s), x1, x2, some (.loc W.st), x4, x5, some (.loc q), x7, x8, x9, x10, x11] σ') ->
  forW (fun σ' => live σ' (all.map encR) (some x)) true [7, 8, 9] (wpS (wpF 11) R lb_law_lay_2) (rs.map encR) Nn [some (.loc W.s), x1, x2, some (.loc W.st), x4, x5, some (.loc q), x7, x8, x9, x10, x11] σ := by
 intro rs
 induction rs with
 | nil => exact fun done ts σ x7 x8 x9 x10 x11 hr hd hk hl hin h q' => ⟨g_L h (p := (x, .list (all.map encR))) (List.mem_append_left _ mx), by
   rw [List.append_nil] at q'
   exact q' ts _ _ _ _ _ σ hk .refl hin h.refl⟩
 | cons r rs ih => exact fun done ts σ x7 x8 x9 x10 x11 hr hd hk hl hin h q' => ⟨g_L h (p := (x, .list (all.map encR))) (List.mem_append_left _ mx), by
   have e6 : (r :: rs).length * 60 = 60 + rs.length * 60 := (Nat.succ_mul _ _).trans (Nat.add_comm _ _)
   have ed : (done ++ [r]).length + rs.length = done.length + (r :: rs).length := by rw [List.length_append, List.length_singleton, Nat.add_assoc, Nat.add_comm 1]; rfl
   rw [e6] at hl q'
   refine lay_row (S := { S with ts := ts }) h hk (Nat.le_trans (Nat.le_add_right _ (rs.length * 60)) (Nat.le_trans (Nat.le_of_eq (Nat.add_assoc _ _ _)) hl)) hN.gro (hr r (.head _)) (by rw [List.length_map]; exact Nat.le_trans (Nat.le_add_right _ _) hd) fun ts2 a10 a11 σ2 hk2 g2 hin2 U2 => ?_
   have hi2 : ∀ u ∈ done ++ [r], Rin ts2 f u := fun u hu => (List.mem_append.mp hu).elim (fun z => (hin u z).gro g2.pre) fun z => List.mem_singleton.mp z ▸ hin2
   have ee : done.map (rowB ts f k) ++ [rowB ts2 f k r] = (done ++ [r]).map (rowB ts2 f k) := by
    rw [List.map_append, List.map_congr_left fun u hu => (rowB_gro (hin u hu) g2.pre).symm]
    rfl
   rw [ee] at U2
   refine ih (done ++ [r]) (fun u hu => hr u (.tail _ hu)) (Nat.le_trans (Nat.le_of_eq ed) hd) hk2 (g2.lim hl) hi2 U2.sta fun ts3 a7 a8 a9 a10 a11 σ3 hk3 g3 hi3 U3 => ?_
   rw [List.append_assoc] at hi3 U3
   exact q' ts3 a7 a8 a9 a10 a11 σ3 hk3 (g2.trans g3) hi3 (U2.trans U3)⟩
theorem lay_code {R : Post} {Nn : Nt} {nt t x dl tl cl : Nat} {name : String} {rs : List Row} {locs : List V} {r0 : MeR} {x2 x4 x6 x7 x8 x9 x10 x11 : Option V} (h : Sta σ (gF W S L)) (hk : KT S.ts) (hl : S.ts.length + 120 ≤ 9990) (hN : Nums S nt f k) (hr : ∀ r ∈ rs, Rwf nt r) (hrl : rs.length ≤ 2) (ht : vc nt t)
  (md : (dl, dO tl cl name) ∈ L) (mc : (cl, .list locs) ∈ L) (hx : locs[t]? = some (.loc x)) (mx : (x, .list (rs.map encR)) ∈ L) (hm : S.mel[k t]? = some (.loc r0.y)) (hr0 : r0.mid = k t) (mr0 : (r0.y, meI r0 .none) ∈ L)
  (q : ∀ a6 a7 a8 a9 a10 a11 ts' z L' σ', KT ts' -> Gro S.ts ts' 120 -> (∀ r ∈ rs, Rin ts' f r) -> (∀ p ∈ L, meMid p.2 ≠ some (.int (k t)) -> p ∈ L') -> (r0.y, meI r0 (.loc (z + 2))) ∈ L' -> (∀ p ∈ bdF z (rs.map (rowB ts' f k) ++ [.tup [.int 42, .int 0]]), p ∈ L') -> Upd (gF W S L) (gF W { S with ts := ts' } L') σ σ' ->
   Nn [some (.loc W.s), some (.loc dl), x2, some (.loc W.st), x4, some (.int t), a6, a7, a8, a9, a10, a11] σ') :
  wpS (wpF 11) R lb_law_lay_1 Nn [some (.loc W.s), some (.loc dl), x2, some (.loc W.st), x4, some (.int t), x6, x7, x8, x9, x10, x11] σ := by
 have U0 := g_push h [.list []]
 have gd : (σ ++ [O.list []])[dl]? = some (dO tl cl name) := g_L U0.sta (List.mem_append_left _ md)
 have gc : (σ ++ [O.list []])[cl]? = some (.list locs) := g_L U0.sta (List.mem_append_left _ mc)
 have gx : (σ ++ [O.list []])[x]? = some (.list (rs.map encR)) := g_L U0.sta (List.mem_append_left _ mx)
 have hat := (hN.at' t ht).1
 have em : dget S.md (.tup [.int t, .int 1]) = some (.int (k t)) := hat.m1
 have kk : keyOk S.md (.tup [.int t, .int 1]) := key3 hN.mdk rfl
 delta lb_law_lay_1
 refine cut_set fun W0 hW0 => ?_
 (and_intros)
 refine hW0 _ _ (cut_loop fun W1 hW1 => ?_)
 (and_intros)
 refine hW1 _ _ _ (.mk (.list gx) (code_loop (ts := S.ts) hN mx rs [] hr (Nat.le_trans (Nat.le_of_eq (Nat.zero_add _)) (Nat.le_trans hrl (by decide))) hk (Nat.le_trans (Nat.add_le_add_left (Nat.mul_le_mul_right 60 hrl) _) hl) nofun U0.sta fun ts' a7 a8 a9 a10 a11 σ' hk' g' hin U => ?_))
 rw [List.nil_append] at hin U
 have gs := g_s U.sta
 have gmi := g_mi U.sta
 have gq : σ'[σ.length]? = some (.list (rs.map (rowB ts' f k))) := g_L U.sta (p := (σ.length, _)) (List.mem_append_right _ (.head _))
 have l1 : (rs.map (rowB ts' f k) ++ [V.tup [.int 42, .int 0]]).length ≤ 10 := by rw [List.length_append, List.length_map]; exact Nat.le_trans (Nat.add_le_add_right hrl 1) (by decide)
 have l2 : Nat.ble (rs.map (rowB ts' f k) ++ [V.tup [.int 42, .int 0]]).length lim = true := lim_of (Nat.le_trans l1 (by decide))
 have U1 := U.trans (U.sta.grow3 (.list [.tup [.int 42, .int 0]]) (.list (rs.map (rowB ts' f k) ++ [.tup [.int 42, .int 0]])) (.list []))
 delta lk_law_lay_2
 (and_intros)
 rw [<- hr0]
 refine wpF_le (n := 2) (by decide) (set_body_spec (N := 0) (r := r0) (cv := rs.map (rowB ts' f k) ++ [.tup [.int 42, .int 0]]) U1.sta (by rw [hr0]; exact hm) (List.mem_append_left _ mr0) (lk_app lk_new) l1 lk_new fun z L' σ2 h1 h2 h3 U2 => ?_)
 rw [hr0] at h1
 exact q _ _ _ _ _ _ ts' z L' σ2 hk' (g'.le (Nat.mul_le_mul_right 60 hrl)) hin (fun p hp hne => h1 p (List.mem_append_left _ hp) hne) h2 h3 ((U0.trans U1).trans U2)
end
section
variable {X : Nat -> Prop} {S S' B : Sv} {L L' : Facts} {lib name nm : String} {li n n' x t app tid cnt asm k0 : Nat} {done : List Nat} {b : V} {f k : Nat -> Nat} {types : List (String × Nat)} {rows : List (List Row)}
theorem bdF_ne {z : Nat} {cv : List V} {p : Nat × O} (hp : p ∈ bdF z cv) : ∀ m, X m -> meMid p.2 ≠ some (.int m) :=
 none_x (Option.isNone_iff_eq_none.mp (List.all_eq_true.mp (show (bdF z cv).all (fun p => (meMid p.2).isNone) = true from rfl) p hp))
theorem dF_ne {dl tl cl : Nat} {code : List (Nat × List Row)} {p : Nat × O} (hp : p ∈ dF dl tl cl name types code) : ∀ m, X m -> meMid p.2 ≠ some (.int m) := none_x (by
 rcases List.mem_cons.mp hp with rfl | hp
 ·rfl
 ·rcases List.mem_cons.mp hp with rfl | hp
  ·rfl
  ·rcases List.mem_cons.mp hp with rfl | hp
   ·rfl
   ·obtain ⟨q, _, rfl⟩ := List.mem_map.mp hp
    rfl)
theorem Std.len (h : Std S L tid name cnt asm k0 b) : tid < S.tyl.length /\ k0 + 1 < S.mel.length := ex5 h.ex fun _ _ _ _ _ a => ⟨len_of a.1.1, len_of a.1.2.2⟩
theorem Std.up (h : Std S L tid name cnt asm k0 b) (e : Ext X S S' L L') (hX : ∀ m, X m -> S.mel.length ≤ m) : Std S' L' tid name cnt asm k0 b :=
 h.ext e (fun z => Nat.lt_irrefl _ (Nat.lt_of_lt_of_le (Nat.lt_of_succ_lt h.len.2) (hX _ z))) fun z => Nat.lt_irrefl _ (Nat.lt_of_lt_of_le h.len.2 (hX _ z))
theorem WInv.go (w : WInv S L lib li done n) (e : Ext X S S' L L') (hX : ∀ m, X m -> S.mel.length ≤ m) (ok : Sok S' n') (all : TyAll S' L') (hat : ∀ c tid k, (c ∈ done ∨ c = 13) -> At' S c tid k -> At' S' c tid k) (has : ∀ (tid : Nat) (r : TyR), S'.tyl[tid]? = some (some r) -> r.asm < S'.am.length) : WInv S' L' lib li done n' where
 ok := ok
 all := all
 lo := Nat.le_trans w.lo e.ty.length_le
 cls := fun c' hc' => ex2 (w.cls c' hc') fun tid k h => ⟨tid, k, h.1.up e hX, hat c' tid k (.inl hc') h.2⟩
 t13 := ⟨get_ext w.t13.1 e.ty, get_ext w.t13.2.1 e.me, get_ext w.t13.2.2 e.me⟩
 a13 := hat 13 37 2 (.inr rfl) w.a13
 core := get_ext w.core e.am
 lib := get_ext w.lib e.am
 li := w.li
 asms := has
 t0 := ⟨get_ext w.t0.1 e.ty, get_ext w.t0.2 e.me⟩
structure OwnT (B S : Sv) (L : Facts) (app : Nat) (types : List (String × Nat)) (t : Nat) (f k : Nat -> Nat) : Prop where
 at' : ∀ c, c < t -> At' S c (f c) (k c)
 lo : ∀ c, c < t -> (B.tyl.length ≤ f c /\ B.mel.length ≤ k c) /\ f c < S.tyl.length /\ k c + 2 ≤ S.mel.length
 mono : ∀ c d, c < d -> d < t -> f c < f d /\ k c + 2 ≤ k d
 own : ∀ tid r, S.tyl[tid]? = some (some r) -> B.tyl.length ≤ tid -> (r.asm = 0 ∨ r.asm = app) /\ (r.asm = app ↔ ∃ c, c < t /\ f c = tid)
 std : ∀ c nm cnt, c < t -> types[c]? = some (nm, cnt) -> Std S L (f c) nm cnt app (k c) .none
 tyl : B.tyl.length ≤ S.tyl.length
 mel : B.mel.length ≤ S.mel.length
noncomputable def up1 (f : Nat -> Nat) (t v c : Nat) : Nat := if c = t then v else f c
theorem up1_eq {v : Nat} : up1 f t v t = v := if_pos rfl
theorem up1_lt {v c : Nat} (h : c < t) : up1 f t v c = f c := if_neg (Nat.ne_of_lt h)
theorem OwnT.congr {f' k' : Nat -> Nat} (o : OwnT B S L app types t f k) (h : ∀ c, c < t -> f' c = f c /\ k' c = k c) : OwnT B S L app types t f' k' where
 at' := fun c hc => by rw [(h c hc).1, (h c hc).2]; exact o.at' c hc
 lo := fun c hc => by rw [(h c hc).1, (h c hc).2]; exact o.lo c hc
 mono := fun c d hcd hd => by rw [(h c (Nat.lt_trans hcd hd)).1, (h c (Nat.lt_trans hcd hd)).2, (h d hd).1, (h d hd).2]; exact o.mono c d hcd hd
 own := fun tid r hr hb => (o.own tid r hr hb).imp_right fun e => e.trans ⟨fun ⟨c, hc, e⟩ => ⟨c, hc, (h c hc).1.trans e⟩, fun ⟨c, hc, e⟩ => ⟨c, hc, (h c hc).1.symm.trans e⟩⟩
 std := fun c nm cnt hc ht => by rw [(h c hc).1, (h c hc).2]; exact o.std c nm cnt hc ht
 tyl := o.tyl
 mel := o.mel
theorem OwnT.add (o : OwnT B S L app types t f k) (a : Added S S' L L' t nm cnt app n) (ht : types[t]? = some (nm, cnt)) (h64 : 64 ≤ S.tyl.length) : OwnT B S' L' app types (t + 1) (up1 f t S.tyl.length) (up1 k t S.mel.length) := by
 have o' : OwnT B S L app types t (up1 f t S.tyl.length) (up1 k t S.mel.length) := o.congr fun c hc => ⟨up1_lt hc, up1_lt hc⟩
 have e1 : up1 f t S.tyl.length t = S.tyl.length := up1_eq
 have e2 : up1 k t S.mel.length t = S.mel.length := up1_eq
 generalize up1 f t S.tyl.length = f' at o' e1 ⊢
 generalize up1 k t S.mel.length = k' at o' e2 ⊢
 refine ex1 a.ty fun y hy => ?_
 have hl : S'.tyl.length = S.tyl.length + 1 := by rw [hy]; exact List.length_append
 have hml := a.me
 refine ⟨fun c hc => ?_, fun c hc => ?_, fun c d hcd hd => ?_, fun tid r hr hb => ?_, fun c nm' cnt' hc hty => ?_, Nat.le_trans o.tyl (hl ▸ Nat.le_succ _), Nat.le_trans o.mel (hml ▸ Nat.le_add_right _ 2)⟩
 ·rcases ltS hc with hc | rfl
  ·exact a.old c _ _ (Nat.ne_of_lt hc) (o'.at' c hc)
  ·rw [e1, e2]; exact a.new
 ·rw [hl, hml]
  rcases ltS hc with hc | rfl
  ·exact (o'.lo c hc).imp_right fun h => ⟨Nat.lt_succ_of_lt h.1, Nat.le_trans h.2 (Nat.le_add_right _ 2)⟩
  ·rw [e1, e2]; exact ⟨⟨o.tyl, o.mel⟩, Nat.lt_succ_self _, Nat.le_refl _⟩
 ·rcases ltS hd with hd | rfl
  ·exact o'.mono c d hcd hd
  ·rw [e1, e2]; exact (o'.lo c hcd).2
 ·rw [hy] at hr
  rcases snoc_at hr with hr | ⟨rfl, hq⟩
  ·refine (o'.own tid r hr hb).imp_right fun h => h.trans ⟨fun ⟨c, hc, hf⟩ => ⟨c, Nat.lt_succ_of_lt hc, hf⟩, fun ⟨c, hc, hf⟩ => ?_⟩
   rcases ltS hc with hc | rfl
   ·exact ⟨c, hc, hf⟩
   ·exact absurd (len_of hr) (Nat.not_lt.mpr (Nat.le_of_eq (e1.symm.trans hf)))
  ·cases hq
   exact ⟨.inr rfl, fun _ => ⟨t, Nat.lt_succ_self t, e1⟩, fun _ => rfl⟩
 ·rcases ltS hc with hc | rfl
  ·exact (o'.std c nm' cnt' hc hty).ext a.ext id id
  ·rw [ht] at hty; cases hty
   rw [e1, e2]; exact a.std h64
theorem OwnT.btw (o : OwnT B S L app types t f k) (e : Ext (fun _ => False) S S' L L') {r0 : TyR} (hty : S'.tyl = S.tyl ++ [some r0]) (hme : S'.mel = S.mel) (h0 : r0.asm = 0) (ha : 0 < app) (hat : ∀ c tid k, At' S c tid k -> At' S' c tid k) : OwnT B S' L' app types t f k := by
 have hl : S'.tyl.length = S.tyl.length + 1 := by rw [hty]; exact List.length_append
 refine ⟨fun c hc => hat _ _ _ (o.at' c hc), fun c hc => (o.lo c hc).imp_right fun h => ⟨hl ▸ Nat.lt_succ_of_lt h.1, hme ▸ h.2⟩, o.mono, fun tid r hr hb => ?_, fun c nm cnt hc h => (o.std c nm cnt hc h).ext e id id, hl ▸ Nat.le_succ_of_le o.tyl, hme ▸ o.mel⟩
 rw [hty] at hr
 rcases snoc_at hr with hr | ⟨rfl, hq⟩
 ·exact o.own tid r hr hb
 ·cases hq
  exact ⟨.inl h0, fun z => absurd (h0.symm.trans z) (Nat.ne_of_lt ha), fun ⟨c, hc, hf⟩ => absurd (o.lo c hc).2.1 (Nat.not_lt.mpr (Nat.le_of_eq hf.symm))⟩
def Done (S : Sv) (L : Facts) (x : Nat) (types : List (String × Nat)) (rows : List (List Row)) (f k : Nat -> Nat) (c : Nat) : Prop :=
 ∀ nm cnt, types[c]? = some (nm, cnt) -> ∃ z rs, rows[c]? = some rs /\ Std S L (f c) nm cnt x (k c) (.loc (z + 2)) /\ (∀ p ∈ bdF z (rs.map (rowB S.ts f k) ++ [.tup [.int 42, .int 0]]), p ∈ L) /\ ∀ r ∈ rs, Rin S.ts f r
theorem Done.ext {c : Nat} (h : Done S L x types rows f k c) (e : Ext X S S' L L') (hs : ∀ {nm cnt b}, Std S L (f c) nm cnt x (k c) b -> Std S' L' (f c) nm cnt x (k c) b) : Done S' L' x types rows f k c := fun nm cnt ht =>
 ex2 (h nm cnt ht) fun z rs a => ⟨z, rs, a.1, hs a.2.1, fun p hp => e.L p (a.2.2.1 p (by rwa [List.map_congr_left fun r hr => rowB_gro (a.2.2.2 r hr) e.ts] at hp)) (bdF_ne hp), fun r hr => (a.2.2.2 r hr).gro e.ts⟩
structure Laid (S : Sv) (L : Facts) (lib : String) (x : Nat) (name : String) (types : List (String × Nat)) (rows : List (List Row)) (f k : Nat -> Nat) : Prop where
 am : S.am[x]? = some name
 own : ∀ tid r, S.tyl[tid]? = some (some r) -> (r.asm = x ↔ ∃ c, c < types.length /\ f c = tid)
 mono : ∀ c d, c < d -> d < types.length -> f c < f d
 std : ∀ c, Done S L x types rows f k c
 wld : ∀ c, c = 10 ∨ c = 11 ∨ c = 12 -> ∃ asm, Std S L (f c) "A" (if c = 10 then 0 else 1) asm (k c) .none /\ S.am[asm]? = some (if c = 12 then "core" else lib) /\ asm ≠ x
 t13 : f 13 = 37 /\ S.tyl[37]? = some none /\ k 13 = 2 /\ S.mel[2]? = some .none /\ S.mel[3]? = some .none
 t0 : S.tyl[0]? = some none /\ S.mel[0]? = some .none
theorem Laid.go (h : Laid S L lib x name types rows f k) (e : Ext X S S' L L') (hX : ∀ m, X m -> S.mel.length ≤ m) (hn : ∀ tid r, S.tyl.length ≤ tid -> S'.tyl[tid]? = some (some r) -> r.asm ≠ x) : Laid S' L' lib x name types rows f k where
 am := get_ext h.am e.am
 own := fun tid r hr => by
  rcases Nat.lt_or_ge tid S.tyl.length with hlt | hge
  ·obtain ⟨e', he⟩ := e.ty
   rw [<- he, List.getElem?_append_left hlt] at hr
   exact h.own tid r hr
  ·refine ⟨fun z => (hn tid r hge hr z).elim, fun ⟨c, hc, hf⟩ => ?_⟩
   exact ex2 (h.std c _ _ (List.getElem?_eq_getElem hc)) fun z rs a => absurd (a.2.1.len.1) (Nat.not_lt.mpr (hf ▸ hge))
 mono := h.mono
 std := fun c => (h.std c).ext e fun s => s.up e hX
 wld := fun c hc => ex1 (h.wld c hc) fun asm a => ⟨asm, a.1.up e hX, get_ext a.2.1 e.am, a.2.2⟩
 t13 := ⟨h.t13.1, get_ext h.t13.2.1 e.ty, h.t13.2.2.1, get_ext h.t13.2.2.2.1 e.me, get_ext h.t13.2.2.2.2 e.me⟩
 t0 := ⟨get_ext h.t0.1 e.ty, get_ext h.t0.2 e.me⟩
end
section
variable {W : WL} {S : Sv} {L : Facts} {σ : St} {n app dl tl cl : Nat} {X : Nat -> Prop} {name : String} {types : List (String × Nat)} {code : List (Nat × List Row)} {f k : Nat -> Nat}
structure L2 (W : WL) (S : Sv) (L : Facts) (σ : St) (app : Nat) (X : Nat -> Prop) (types : List (String × Nat)) (rows : List (List Row)) (f k : Nat -> Nat) (j : Nat) (σ' : St) (ts' : List Tm) (L' : Facts) : Prop where
 kt : KT ts'
 len : Gro S.ts ts' (j * 120)
 ext : Ext X S { S with ts := ts' } L L'
 done : ∀ c, c < j -> Done { S with ts := ts' } L' app types rows f k c
 rest : ∀ c nm cnt, j ≤ c -> types[c]? = some (nm, cnt) -> Std { S with ts := ts' } L' (f c) nm cnt app (k c) .none
 U : Upd (gF W S L) (gF W { S with ts := ts' } L') σ σ'
theorem lay_step2 {R : Post} {Nn : Nt} {σ' : St} {ts' : List Tm} {L' : Facts} {j : Nat} {x2 x4 x6 x7 x8 x9 x10 x11 : Option V} (i : L2 W S L σ app X types (code.map (·.2)) f k j σ' ts' L') (w : Dwf name types code) (hd : ∀ p ∈ dF dl tl cl name types code, p ∈ L) (hl : S.ts.length + (j + 1) * 120 ≤ 9990)
  (hN : Nums S types.length f k) (hmono : ∀ c d, c < d -> d < types.length -> k c + 2 ≤ k d) (hX : ∀ c, c < types.length -> X (k c)) (hj : j < types.length)
  (q : ∀ a6 a7 a8 a9 a10 a11 ts2 L2' σ2, L2 W S L σ app X types (code.map (·.2)) f k (j + 1) σ2 ts2 L2' -> Nn [some (.loc W.s), some (.loc dl), x2, some (.loc W.st), x4, some (.int j), a6, a7, a8, a9, a10, a11] σ2) :
  wpS (wpF 11) R lb_law_lay_1 Nn [some (.loc W.s), some (.loc dl), x2, some (.loc W.st), x4, some (.int j), x6, x7, x8, x9, x10, x11] σ' := by
 have hjc : j < code.length := w.cl.symm ▸ hj
 have hty : types[j]? = some (types[j].1, types[j].2) := List.getElem?_eq_getElem hj
 have hcd : code[j]? = some (code[j].1, code[j].2) := List.getElem?_eq_getElem hjc
 have hrl := w.rl _ (List.getElem_mem hjc)
 generalize types[j].1 = nm at hty
 generalize types[j].2 = cnt at hty
 have hs := i.rest j nm cnt (Nat.le_refl _) hty
 refine ex5 hs.ex fun y y1 g1 y2 g2 s => ?_
 have ne : ∀ p ∈ dF dl tl cl name types code, p ∈ L' := fun p hp => i.ext.L p (hd p hp) (dF_ne hp)
 have e120 : (j + 1) * 120 = j * 120 + 120 := Nat.succ_mul j 120
 rw [e120] at hl
 refine lay_code (S := { S with ts := ts' }) (nt := types.length) (x := code[j].1) (locs := code.map fun p => V.loc p.1) (r0 := ⟨y1, k j, f j, 1, g1, 0⟩)
  i.U.sta i.kt (i.len.lim hl) hN.gro hrl.2 hrl.1 (.inl hj) (ne _ (.head _)) (ne _ (.tail _ (.tail _ (.head _)))) (by rw [List.getElem?_map, hcd]; rfl) (ne _ (.tail _ (.tail _ (.tail _ (List.mem_map.mpr ⟨_, List.mem_of_getElem? hcd, rfl⟩))))) s.1.2.1 rfl (s.2.2.1 _ (.head _)) ?_
 intro a6 a7 a8 a9 a10 a11 ts2 z L3 σ2 hk2 g3 hin hL2 hr2 hb2 U2
 have E2 : Ext (fun m => m = k j) { S with ts := ts' } { S with ts := ts2 } L' L3 := ⟨g3.pre, List.prefix_rfl, List.prefix_rfl, List.prefix_rfl, fun p hp hne => hL2 p hp (hne (k j) rfl)⟩
 have hkj : ∀ c, c < types.length -> c ≠ j -> k c ≠ k j /\ k c + 1 ≠ k j := fun c hc hcj => by
  rcases Nat.lt_or_gt_of_ne hcj with z | z
  ·have := hmono c j z hj
   exact ⟨Nat.ne_of_lt (Nat.lt_of_lt_of_le (Nat.lt_add_of_pos_right (by decide)) this), Nat.ne_of_lt this⟩
  ·have := hmono j c z hc
   have : k j < k c := Nat.lt_of_lt_of_le (Nat.lt_add_of_pos_right (by decide)) this
   exact ⟨Nat.ne_of_gt this, Nat.ne_of_gt (Nat.lt_succ_of_lt this)⟩
 refine q a6 a7 a8 a9 a10 a11 ts2 L3 σ2 ⟨hk2, e120 ▸ i.len.trans g3, i.ext.trans (E2.weak fun m e => e ▸ hX j hj), fun c hc => ?_, fun c nm' cnt' hc ht' => ?_, i.U.trans U2⟩
 ·rcases ltS hc with hc | rfl
  ·have := hkj c (Nat.lt_trans hc hj) (Nat.ne_of_lt hc)
   exact (i.done c hc).ext E2 fun s => s.ext E2 this.1 this.2
  ·intro nm' cnt' ht'
   rw [hty] at ht'
   cases ht'
   refine ⟨z, code[c].2, by rw [List.getElem?_map, hcd]; rfl, ⟨hs.lo, hs.cn, y, y1, g1, y2, g2, s.1, fun p hp => E2.L p (s.2.1 p hp) (tyF_ne hp), fun p hp => ?_, fun p hp => E2.L p (s.2.2.2 p hp) (meF_ne hp (Nat.ne_of_gt (Nat.lt_succ_self _)))⟩, hb2, hin⟩
   rcases List.mem_cons.mp hp with rfl | hp
   ·exact hr2
   ·exact hL2 p (s.2.2.1 p (.tail _ hp)) fun e => by
     rcases List.mem_cons.mp hp with rfl | hp
     ·cases e
     ·rw [List.mem_singleton.mp hp] at e; cases e
 ·have hc2 := len_of ht'
  have := hkj c hc2 (Nat.ne_of_gt hc)
  exact (i.rest c nm' cnt' (Nat.le_of_lt hc) ht').ext E2 this.1 this.2
theorem lay_loop2 {R : Post} {Nn : Nt} {x2 x4 x5 : Option V} (h : Sta σ (gF W S L)) (w : Dwf name types code) (hd : ∀ p ∈ dF dl tl cl name types code, p ∈ L)
  (hk : KT S.ts) (hl : S.ts.length ≤ 9000) (hN : Nums S types.length f k) (hmono : ∀ c d, c < d -> d < types.length -> k c + 2 ≤ k d) (hX : ∀ c, c < types.length -> X (k c)) (hstd : ∀ c nm cnt, types[c]? = some (nm, cnt) -> Std S L (f c) nm cnt app (k c) .none)
  (q : ∀ a ts' L' σ', L2 W S L σ app X types (code.map (·.2)) f k types.length σ' ts' L' -> wpS (wpF 11) R lk_law_lay_1 Nn (some (.loc W.s) :: some (.loc dl) :: x2 :: some (.loc W.st) :: x4 :: a) σ') :
  wpS (wpF 11) R lk_law_lay_0 Nn [some (.loc W.s), some (.loc dl), x2, some (.loc W.st), x4, x5, none, none, none, none, none, none] σ := by
 have gd : σ[dl]? = some (dO tl cl name) := g_L h (hd _ (.head _))
 have gt : σ[tl]? = some (.list (types.map encT)) := g_L h (hd _ (.tail _ (.head _)))
 have hlm : (types.map encT).length = types.length := List.length_map _
 have hnt := w.tl.2
 have f1 : fit ((types.map encT).length : Int) := by rw [hlm]; exact fit_n (Nat.ble_eq_true_of_le (Nat.le_trans hnt (by decide)))
 delta lk_law_lay_0
 refine cut_loop fun W0 hW0 => ?_
 (and_intros)
 rw [hlm]
 refine hW0 _ _ _ (.mk (.rng 0 _) (for_rule (fun a : Option V × Option V × Option V × Option V × Option V × Option V × Option V => [some (.loc W.s), some (.loc dl), x2, some (.loc W.st), x4, a.1, a.2.1, a.2.2.1, a.2.2.2.1, a.2.2.2.2.1, a.2.2.2.2.2.1, a.2.2.2.2.2.2])
  (fun j _ σ' => ∃ ts' L', L2 W S L σ app X types (code.map (·.2)) f k j σ' ts' L') _ 0 _ (x5, none, none, none, none, none, none) _ ⟨S.ts, L, hk, .refl, .refl, nofun, fun c nm cnt _ ht => hstd c nm cnt ht, h.refl⟩ (fun _ _ _ _ => trivial) (fun j x a σ' N' hx hI hN' => ?_) fun a σ' hI => ?_))
 ·have hj : j < types.length := by have := len_of hx; rwa [rng_len] at this
  rw [rng_at hj] at hx
  cases hx
  refine ex2 hI fun ts' L' i => ?_
  rw [Nat.zero_add] at i hN'
  exact lay_step2 (x6 := a.2.1) i w hd (Nat.le_trans (Nat.add_le_add hl (Nat.mul_le_mul_right 120 (Nat.le_trans hj hnt))) (by decide)) hN hmono hX hj fun a6 a7 a8 a9 a10 a11 ts2 L3 σ2 i2 => hN' (_, a6, a7, a8, a9, a10, a11) σ2 ⟨ts2, L3, i2⟩
 ·refine ex2 hI fun ts' L' i => ?_
  rw [rng_len, Nat.zero_add] at i
  exact q _ ts' L' σ' i
end
section
variable {W : WL} {B S S' : Sv} {L L0 L' : Facts} {σ : St} {n m app dl tl cl btw : Nat} {name lib : String} {types : List (String × Nat)} {code : List (Nat × List Row)} {f k : Nat -> Nat}
structure L1 (B S : Sv) (L L' : Facts) (app : Nat) (types : List (String × Nat)) (j n : Nat) (f k : Nat -> Nat) : Prop where
 own : OwnT B S L' app types j f k
 ext : Ext (fun _ => False) B S L L'
 ok : Sok S (n + j * 3)
 all : TyAll S L'
 old : ∀ c tid k, 10 ≤ c -> At' B c tid k -> At' S c tid k
 am : S.am = B.am
theorem Sok.ty {nm' : List (V × V)} {t : Option TyR} (o : Sok S n) (hk : ∀ e ∈ nm', kd e.1 = 3) (hl : nm'.length ≤ n + 1) : Sok { S with tyl := S.tyl ++ [t], nm := nm' } (n + 1) :=
 have o' := o.le (Nat.le_succ n)
 ⟨o'.kt, by show (S.tyl ++ [t]).length ≤ _; rw [List.length_append]; exact Nat.succ_le_succ o.tyl, o'.mel, hl, hk, o'.am, o'.tdl, o'.tdk, o'.mdl, o'.mdk, o'.tsl⟩
theorem lay_type1 {R : Post} {Nn : Nt} {j : Nat} {x6 x7 x8 x9 x10 x11 : Option V} (h : Sta σ (gF W S L)) (w : Dwf name types code) (hd : ∀ p ∈ dF dl tl cl name types code, p ∈ L) (hj : j < types.length) (hn : n ≤ 6000) (h64 : 64 ≤ B.tyl.length) (happ : 0 < app) (hbtw : btw = 0 ∨ btw = 1) (i : L1 B S L0 L app types j n f k)
  (q : ∀ S' L' f' k' σ', L1 B S' L0 L' app types (j + 1) n f' k' -> (∀ p ∈ L, p ∈ L') -> Upd (gF W S L) (gF W S' L') σ σ' -> Nn [some (.loc W.s), some (.loc dl), some (.int btw), some (.loc W.st), some (.int app), some (.int j), x6, x7, x8, x9, x10, x11] σ') :
  wpS (wpF 11) R lb_law_lay_0 Nn [some (.loc W.s), some (.loc dl), some (.int btw), some (.loc W.st), some (.int app), some (.int j), x6, x7, x8, x9, x10, x11] σ := by
 have gd : σ[dl]? = some (dO tl cl name) := g_L h (hd _ (.head _))
 have gt : σ[tl]? = some (.list (types.map encT)) := g_L h (hd _ (.tail _ (.head _)))
 have hty : types[j]? = some (types[j].1, types[j].2) := List.getElem?_eq_getElem hj
 have hc := (w.tc _ (List.getElem_mem hj)).1
 have hnt := w.tl.2
 generalize types[j].1 = nm at hty
 generalize types[j].2 = cnt at hty hc
 have e1 : (types.map encT)[j]? = some (.tup [.str nm, .int cnt]) := by rw [List.getElem?_map, hty]; rfl
 have hj3 : j * 3 ≤ 12 := Nat.mul_le_mul_right 3 (Nat.le_trans (Nat.le_of_lt hj) hnt)
 have e3 : n + (j + 1) * 3 = n + j * 3 + 2 + 1 := congrArg (n + ·) (Nat.succ_mul j 3)
 have hn3 : n + j * 3 ≤ 6012 := Nat.add_le_add hn hj3
 delta lb_law_lay_0
 refine cut_expr fun W0 hW0 => ?_
 (and_intros)
 refine wpF_le (n := 4) (by decide) (law_type_spec' (N := 0) h i.ok (Nat.le_trans hn3 (by decide)) hc fun S1 L1' σ1 a U1 => ?_)
 have own1 := i.own.add a hty (Nat.le_trans h64 i.own.tyl)
 have ext1 := i.ext.trans a.ext
 have all1 := a.all i.all
 have old1 : ∀ c tid k, 10 ≤ c -> At' B c tid k -> At' S1 c tid k := fun c tid k hc h => a.old c tid k (Nat.ne_of_gt (Nat.lt_of_lt_of_le (Nat.lt_of_lt_of_le hj hnt) (Nat.le_trans (by decide) hc))) (i.old c tid k hc h)
 have am1 : S1.am = B.am := a.am.trans i.am
 refine hW0 _ _ ?_
 rcases hbtw with rfl | rfl
 ·have fin := q S1 L1' _ _ σ1 ⟨own1, ext1, e3 ▸ a.ok.le (Nat.le_succ _), all1, old1, am1⟩ a.ext.sub U1
  exact IfW.f (.int rfl) fin
 ·have U2 := U1.sta.grow [.list []]
  have gst := g_st U1.sta
  refine IfW.t (.int rfl) ?_
  (and_intros)
  refine wpF_le (n := 2) (by decide) (add_type_spec (N := 0) (asm := 0) (cnt := 0) (pl := σ1.length) U2.sta a.ok (Nat.le_trans (Nat.add_le_add_right hn3 2) (by decide)) (by decide) lk_new (fun hi => Nat.lt_irrefl _ (U1.has.lt hi)) fun nm' σ2 hk hl U3 => ?_)
  generalize (σ1 ++ [O.list []]).length = y at U3
  have e2 : Ext (fun _ => False) S1 { S1 with tyl := S1.tyl ++ [some (TyR.mk y "A" 0 0)], nm := nm' } L1' (L1' ++ tyF S1.tyl.length (TyR.mk y "A" 0 0) []) := ⟨List.prefix_rfl, List.prefix_append _ _, List.prefix_rfl, List.prefix_rfl, fun p hp _ => List.mem_append_left _ hp⟩
  exact q _ _ _ _ σ2 ⟨own1.btw e2 rfl rfl rfl happ (fun c tid k h => h.cong rfl rfl), ext1.trans e2, e3 ▸ a.ok.ty hk hl, all1.push (fun p hp => List.mem_append_left _ hp) rfl fun p hp => List.mem_append_right _ hp, fun c tid k hc h => (old1 c tid k hc h).cong rfl rfl, am1⟩ (fun p hp => List.mem_append_left _ (a.ext.sub p hp)) ((U1.trans U2).trans U3)
end
section
variable {W : WL} {S S' : Sv} {L L' : Facts} {σ : St} {n li dl tl cl btw : Nat} {name lib : String} {types : List (String × Nat)} {code : List (Nat × List Row)} {f : Nat -> Nat}
theorem up1_ne {t v c : Nat} (h : c ≠ t) : up1 f t v c = f c := if_neg h
noncomputable def up4 (f : Nat -> Nat) (a b c d : Nat) : Nat -> Nat := up1 (up1 (up1 (up1 f 13 d) 12 c) 11 b) 10 a
theorem up4_lt {a b c d i : Nat} (h : i < 10) : up4 f a b c d i = f i := by
 unfold up4
 rw [up1_lt h, up1_lt (Nat.lt_trans h (by decide)), up1_lt (Nat.lt_trans h (by decide)), up1_lt (Nat.lt_trans h (by decide))]
theorem ok_ts {ts' : List Tm} (o : Sok S n) (hk : KT ts') (h : ts'.length ≤ n) : Sok { S with ts := ts' } n := ⟨hk, o.tyl, o.mel, o.nml, o.nmk, o.am, o.tdl, o.tdk, o.mdl, o.mdk, h⟩
theorem OwnT.nil {app : Nat} {f k : Nat -> Nat} : OwnT S S L app types 0 f k := ⟨nofun, nofun, nofun, fun tid r hr hb => absurd (len_of hr) (Nat.not_lt.mpr hb), nofun, Nat.le_refl _, Nat.le_refl _⟩
theorem lay_spec {Q : Post} (h : Sta σ (gF W S L)) (w : Dwf name types code) (hd : ∀ p ∈ dF dl tl cl name types code, p ∈ L) (hn : n ≤ 3000) (hbtw : btw = 0 ∨ btw = 1) (wi : WInv S L lib li [10, 11, 12] n)
  (q : ∀ S' L' f k σ', Laid S' L' lib S.am.length name types (code.map (·.2)) f k -> WInv S' L' lib li [10, 11, 12] (n + 600) -> Ext (fun m => S.mel.length ≤ m) S S' L L' -> (∀ (tid : Nat) (r : TyR), S.tyl.length ≤ tid -> S'.tyl[tid]? = some (some r) -> r.asm = 0 ∨ r.asm = S.am.length) -> S'.am = S.am ++ [name] -> Upd (gF W S L) (gF W S' L') σ σ' -> Q (.int S.am.length) σ') :
  wpF 12 .law_lay [.loc W.s, .loc dl, .int btw] Q σ := by
 have gd : σ[dl]? = some (dO tl cl name) := g_L h (hd _ (.head _))
 have gs := g_s h
 have hnt := w.tl.2
 have hli : 0 < S.am.length := len_of wi.core
 have hlm : (types.map encT).length = types.length := List.length_map _
 have f1 : fit ((types.map encT).length : Int) := by rw [hlm]; exact fit_n (Nat.ble_eq_true_of_le (Nat.le_trans hnt (by decide)))
 refine enter3 rfl ?_
 delta body_law_lay
 refine cut_set fun W0 hW0 => ?_
 (and_intros)
 refine hW0 _ _ (cut_set fun W1 hW1 => ?_)
 (and_intros)
 refine wpF_le (n := 1) (by decide) (new_asm_spec (N := 0) h (Nat.le_trans wi.ok.am (Nat.le_trans hn (by decide))) fun σ1 U1 => ?_)
 have gd1 : σ1[dl]? = some (dO tl cl name) := g_L U1.sta (hd _ (.head _))
 have gt1 : σ1[tl]? = some (.list (types.map encT)) := g_L U1.sta (hd _ (.tail _ (.head _)))
 (and_intros)
 refine hW1 _ _ (cut_loop fun W2 hW2 => ?_)
 (and_intros)
 rw [hlm]
 refine hW2 _ _ _ (.mk (.rng 0 _) (for_rule (fun a : Option V => [some (.loc W.s), some (.loc dl), some (.int btw), some (.loc W.st), some (.int S.am.length), a, none, none, none, none, none, none])
  (fun j _ σ' => ∃ S' L' f k, L1 { S with am := S.am ++ [name] } S' L L' S.am.length types j (n + 1) f k /\ (∀ p ∈ L, p ∈ L') /\ Upd (gF W S L) (gF W S' L') σ σ') _ 0 _ none _ ⟨{ S with am := S.am ++ [name] }, L, id, id, ⟨.nil, .refl, wi.ok.am' (Nat.lt_succ_self n), wi.all, fun _ _ _ _ z => z, rfl⟩, fun _ z => z, U1⟩ (fun _ _ _ _ => trivial) (fun j x a σ' N' hx hI hN' => ?_) fun a σ' hI => ?_))
 ·have hj : j < types.length := by have := len_of hx; rwa [rng_len] at this
  rw [rng_at hj] at hx
  cases hx
  refine ex4 hI fun S1 L1 f1 k1 i => ?_
  rw [Nat.zero_add] at i hN'
  exact lay_type1 (B := { S with am := S.am ++ [name] }) (n := n + 1) i.2.2.sta w (fun p hp => i.2.1 p (hd p hp)) hj (Nat.le_trans (Nat.succ_le_succ hn) (by decide)) wi.lo hli hbtw i.1 fun S2 L2 f2 k2 σ2 i2 hs2 U2 => hN' (some (.int j)) σ2 ⟨S2, L2, f2, k2, i2, fun p hp => hs2 p (i.2.1 p hp), i.2.2.trans U2⟩
 ·refine ex4 hI fun S1 L1 f k i => ?_
  rw [rng_len, Nat.zero_add] at i
  obtain ⟨i, hsub, U⟩ := i
  refine ex2 (wi.cls 10 (.head _)) fun t10 k10 c10 => ex2 (wi.cls 11 (.tail _ (.head _))) fun t11 k11 c11 => ex2 (wi.cls 12 (.tail _ (.tail _ (.head _)))) fun t12 k12 c12 => ?_
  have own : OwnT { S with am := S.am ++ [name] } S1 L1 S.am.length types types.length (up4 f t10 t11 t12 37) (up4 k k10 k11 k12 2) := i.own.congr fun c hc => ⟨up4_lt (Nat.lt_of_lt_of_le hc (Nat.le_trans hnt (by decide))), up4_lt (Nat.lt_of_lt_of_le hc (Nat.le_trans hnt (by decide)))⟩
  have F : ∀ {f : Nat -> Nat} {a b c d : Nat}, up4 f a b c d 10 = a /\ up4 f a b c d 11 = b /\ up4 f a b c d 12 = c /\ up4 f a b c d 13 = d := ⟨rfl, rfl, rfl, rfl⟩
  have F1 := F (f := f) (a := t10) (b := t11) (c := t12) (d := 37)
  have F2 := F (f := k) (a := k10) (b := k11) (c := k12) (d := 2)
  generalize up4 f t10 t11 t12 37 = F at own F1
  generalize up4 k k10 k11 k12 2 = K at own F2
  have up : ∀ {c tid k}, 10 ≤ c -> At' S c tid k -> At' S1 c tid k := fun hc h => i.old _ _ _ hc (h.cong rfl rfl)
  have nums : Nums S1 types.length F K := ⟨fun c hc => by
   rcases hc with hc | hc
   ·exact ⟨own.at' c hc, Nat.le_trans (Nat.le_trans (by decide) wi.lo) (own.lo c hc).1.1⟩
   ·obtain ⟨j, rfl⟩ := Nat.le.dest hc.1
    rcases four (Nat.le_of_add_le_add_left (a := 10) hc.2) with rfl | rfl | rfl | rfl
    ·rw [F1.1, F2.1]; exact ⟨up (by decide) c10.2, Nat.le_trans (by decide) c10.1.lo⟩
    ·rw [F1.2.1, F2.2.1]; exact ⟨up (by decide) c11.2, Nat.le_trans (by decide) c11.1.lo⟩
    ·rw [F1.2.2.1, F2.2.2.1]; exact ⟨up (by decide) c12.2, Nat.le_trans (by decide) c12.1.lo⟩
    ·rw [F1.2.2.2, F2.2.2.2]; exact ⟨up (by decide) wi.a13, by decide⟩, i.ok.tdk, i.ok.mdk⟩
  have hn20 : n + 1 + types.length * 3 ≤ n + 13 := Nat.add_le_add_left (Nat.mul_le_mul_right 3 hnt) (n + 1)
  refine lay_loop2 (app := S.am.length) (name := name) (types := types) (code := code) (f := F) (k := K) (X := fun m => S.mel.length ≤ m) U.sta w (fun p hp => hsub p (hd p hp)) i.ok.kt (Nat.le_trans i.ok.tsl (Nat.le_trans hn20 (Nat.le_trans (Nat.add_le_add_right hn 13) (by decide)))) nums (fun c d hcd hd => (own.mono c d hcd hd).2) (fun c hc => (own.lo c hc).1.2) (fun c nm cnt ht => own.std c nm cnt (len_of ht) ht) fun a ts' L' σ2 i2 => ?_
  have E : Ext (fun m => S.mel.length ≤ m) S { S1 with ts := ts' } L L' := ((⟨List.prefix_rfl, List.prefix_rfl, List.prefix_rfl, List.prefix_append _ _, fun p hp _ => hp⟩ : Ext _ S { S with am := S.am ++ [name] } L L).trans (i.ext.weak fun _ z => z.elim)).trans i2.ext
  have newasm : ∀ tid r, S.tyl.length ≤ tid -> S1.tyl[tid]? = some (some r) -> r.asm = 0 ∨ r.asm = S.am.length := fun tid r ht hr => (own.own tid r hr ht).1
  have oldty : ∀ tid r, tid < S.tyl.length -> S1.tyl[tid]? = some (some r) -> S.tyl[tid]? = some (some r) := fun tid r ht hr => by
   obtain ⟨e', he'⟩ := i.ext.ty
   rw [<- he', List.getElem?_append_left ht] at hr
   exact hr
  have am1 : S1.am = S.am ++ [name] := i.am
  have asmlt : ∀ {tid nm cnt asm k b}, Std S L tid nm cnt asm k b -> asm ≠ S.am.length := fun hs => ex5 hs.ex fun _ _ _ _ _ a => Nat.ne_of_lt (wi.asms _ _ a.1.1)
  have go : ∀ {tid nm cnt asm k}, Std S L tid nm cnt asm k .none -> Std { S1 with ts := ts' } L' tid nm cnt asm k .none := fun hs => hs.up E fun _ z => z
  have hlen := i2.len.len
  have laid : Laid { S1 with ts := ts' } L' lib S.am.length name types (code.map (·.2)) F K := ⟨by show S1.am[_]? = _; rw [am1]; exact List.getElem?_concat_length, fun tid r hr => ?_, fun c d hcd hd => (own.mono c d hcd hd).1, fun c nm cnt ht => i2.done c (len_of ht) nm cnt ht, fun c hc => ?_, ⟨F1.2.2.2, get_ext wi.t13.1 E.ty, F2.2.2.2, get_ext wi.t13.2.1 E.me, get_ext wi.t13.2.2 E.me⟩, ⟨get_ext wi.t0.1 E.ty, get_ext wi.t0.2 E.me⟩⟩
  ·have wi2 : WInv { S1 with ts := ts' } L' lib li [10, 11, 12] (n + 600) := wi.go E (fun _ z => z) (ok_ts (i.ok.le (Nat.le_trans hn20 (Nat.add_le_add_left (by decide) n))) i2.kt (Nat.le_trans hlen (Nat.le_trans (Nat.add_le_add (Nat.le_trans i.ok.tsl hn20) (Nat.mul_le_mul_right 120 hnt)) (Nat.le_trans (Nat.le_of_eq (Nat.add_assoc n 13 _)) (Nat.add_le_add_left (by decide) n))))) (i.all.mono i2.ext rfl) (fun c tid k hc h => (up (hc.elim (fun z => (by decide : ∀ c ∈ [10, 11, 12], 10 ≤ c) c z) fun z => z ▸ by decide) h).cong rfl rfl) fun tid r hr => ?_
   ·exact q { S1 with ts := ts' } L' F K σ2 laid wi2 E newasm am1 (U.trans i2.U)
   ·show r.asm < S1.am.length
    rw [am1]
    rcases Nat.lt_or_ge tid S.tyl.length with hlt | hge
    ·exact am_lt (wi.asms _ _ (oldty tid r hlt hr))
    ·rw [List.length_append]
     exact (newasm tid r hge hr).elim (fun z => z ▸ Nat.succ_pos _) fun z => z ▸ Nat.lt_succ_self _
  ·rcases Nat.lt_or_ge tid S.tyl.length with hlt | hge
   ·exact ⟨fun z => absurd z (Nat.ne_of_lt (wi.asms _ _ (oldty tid r hlt hr))), fun ⟨c, hc, hf⟩ => absurd hlt (Nat.not_lt.mpr (hf ▸ (own.lo c hc).1.1))⟩
   ·exact (own.own tid r hr hge).2
  ·rcases hc with rfl | rfl | rfl
   ·rw [F1.1, F2.1]; exact ⟨li, go c10.1, get_ext wi.lib E.am, asmlt c10.1⟩
   ·rw [F1.2.1, F2.2.1]; exact ⟨li, go c11.1, get_ext wi.lib E.am, asmlt c11.1⟩
   ·rw [F1.2.2.1, F2.2.2.1]; exact ⟨0, go c12.1, get_ext wi.core E.am, asmlt c12.1⟩
end
noncomputable def Tm.okc (nt : Nat) : Tm -> Prop
 | .p _ => True
 | .M => True
 | .T i => i ≤ 1
 | .a t => t.okc nt
 | .c0 c => vc nt c
 | .c1 c x => vc nt c /\ x.okc nt
 | .c2 c x y => vc nt c /\ x.okc nt /\ y.okc nt
theorem ok_okc {nt : Nat} (t : Tm) : ∀ {m : Nat}, t.ok nt m -> t.okc nt := by
 induction t with
 | p k => exact fun _ => trivial
 | M => exact fun _ => trivial
 | T i => intro m h; cases m <;> exact h
 | c0 c => intro m h; cases m <;> exact h
 | a t ih => intro m h; cases m with
  | zero => exact h.elim
  | succ m => exact ih (m := m) h
 | c1 c x ih => intro m h; cases m with
  | zero => exact h.elim
  | succ m => exact ⟨h.1, ih h.2⟩
 | c2 c x y h1 h2 => intro m h; cases m with
  | zero => exact h.elim
  | succ m => exact ⟨h.1, h1 h.2.1, h2 h.2.2⟩
section
variable {n m nt : Nat} {f g : Nat -> Nat} {t s : Tm}
theorem okc_le (h : n ≤ m) (t : Tm) : t.okc n -> t.okc m := by
 induction t with
 | p k => exact id
 | M => exact id
 | T i => exact id
 | c0 c => exact vc.le h
 | a t ih => exact ih
 | c1 c x ih => exact fun z => ⟨z.1.le h, ih z.2⟩
 | c2 c x y h1 h2 => exact fun z => ⟨z.1.le h, h1 z.2.1, h2 z.2.2⟩
theorem okc_sub (h : t.okc nt) (hs : s ∈ t.subs) : s.okc nt := by
 cases t with
 | a t => rw [List.mem_singleton.mp hs]; exact h
 | c1 c x => rw [List.mem_singleton.mp hs]; exact h.2
 | c2 c x y =>
  rcases List.mem_cons.mp hs with rfl | hs
  ·exact h.2.1
  ·rw [List.mem_singleton.mp hs]; exact h.2.2
 | _ => cases hs
theorem okc_top (h : t.okc nt) {c : Nat} (e : t.top = some c) : vc nt c := by
 cases t with
 | c0 d => cases e; exact h
 | c1 d x => cases e; exact h.1
 | c2 d x y => cases e; exact h.1
 | _ => cases e
theorem top_mkC {c : Nat} : ∀ {l : List Tm}, l.length ≤ 2 -> (mkC c l).top = some c
 | [], _ => rfl
 | [_], _ => rfl
 | [_, _], _ => rfl
 | _ :: _ :: _ :: _, h => absurd h (by simp)
theorem subs_sub (t : Tm) : (t.sub f).subs = t.subs.map (Tm.sub f) := by cases t <;> rfl
theorem sub_back (hg : ∀ c, vc nt c -> g (f c) = c) (t : Tm) : t.okc nt -> (t.sub f).sub g = t := by
 induction t with
 | p k => exact fun _ => rfl
 | M => exact fun _ => rfl
 | T i => exact fun _ => rfl
 | c0 c => exact fun h => congrArg Tm.c0 (hg c h)
 | a t ih => exact fun h => congrArg Tm.a (ih h)
 | c1 c x ih => exact fun h => cA2 Tm.c1 (hg c h.1) (ih h.2)
 | c2 c x y h1 h2 => exact fun h => (congrArg (Tm.c2 · _ _) (hg c h.1)).trans (cA2 (Tm.c2 c) (h1 h.2.1) (h2 h.2.2))
end
noncomputable def pathV (lib : String) (c : Nat) : V := if c < 10 then .tup [.int c] else match c - 10 with
 | 0 => .tup [.str lib, .str "A", .int 0]
 | 1 => .tup [.str lib, .str "A", .int 1]
 | 2 => .tup [.str "core", .str "A", .int 1]
 | _ => .tup [.str "", .int 37]
noncomputable def pathD (v : V) : Nat := match v.l with
 | [] => 0
 | [c] => c.i
 | [_, _] => 13
 | s :: _ :: k :: _ => if s.s = "core" then 12 else 10 + k.i
theorem pathD_pathV {lib : String} (hl : lib ≠ "core") {c : Nat} (hc : vc 9 c) : pathD (pathV lib c) = c := by
 rcases hc with hc | ⟨hc, hc'⟩
 ·unfold pathV; rw [if_pos (Nat.lt_succ_of_lt hc)]; rfl
 ·obtain ⟨j, rfl⟩ := Nat.le.dest hc
  rcases four (Nat.le_of_add_le_add_left (a := 10) hc') with rfl | rfl | rfl | rfl
  ·exact if_neg hl
  ·exact if_neg hl
  ·exact (if_pos rfl : (if "core" = "core" then 12 else 11) = 12)
  ·rfl
theorem pathV_pure (lib : String) (c : Nat) : pureN 2 (pathV lib c) = true := by
 unfold pathV
 by_cases h : c < 10
 ·rw [if_pos h]; rfl
 ·rw [if_neg h]; exact match c - 10 with
  | 0 => rfl
  | 1 => rfl
  | 2 => rfl
  | _ + 3 => rfl
noncomputable def hT (i : Nat) : V := if i = 99 then .tup [] else .tup [.int 6, .int i]
noncomputable def keyV (lib : String) (ix : List Tm) (t : Tm) : V := rowG (pathV lib) hT ix t
def tel (t : Tm) : Prop := t = .T 99 ∨ t.okc 9
theorem keyGH {lib : String} (hl : lib ≠ "core") : GH (pathV lib) hT pathD tel :=
 ⟨fun i => if h : i = 99 then .inr ⟨if_pos h, h⟩ else .inl (if_neg h), fun t c o e => pathD_pathV hl (o.elim (fun z => by rw [z] at e; cases e) fun o => okc_top o e), fun c => pureN_le (show 2 ≤ 4 by decide) (pathV_pure lib c)⟩
structure IX (ix : List Tm) : Prop where
 nd : ix.Nodup
 cl : ∀ t ∈ ix, ∀ s ∈ t.subs, s ∈ ix
 ok : ∀ t ∈ ix, tel t
theorem IX.add {ix : List Tm} (h : IX ix) {t : Tm} (ht : t ∉ ix) (hs : ∀ s ∈ t.subs, s ∈ ix) (ho : tel t) : IX (ix ++ [t]) where
 nd := List.nodup_append.mpr ⟨h.nd, List.nodup_cons.mpr ⟨List.not_mem_nil, List.nodup_nil⟩, fun a ha b hb e => ht (by rw [List.mem_singleton.mp hb] at e; exact e ▸ ha)⟩
 cl := fun u hu s hsu => List.mem_append_left _ ((List.mem_append.mp hu).elim (fun z => h.cl u z s hsu) fun z => hs s (List.mem_singleton.mp z ▸ hsu))
 ok := fun u hu => (List.mem_append.mp hu).elim (h.ok u) fun z => List.mem_singleton.mp z ▸ ho
noncomputable def ixkv (lib : String) (ix : List Tm) : List (V × V) := kvG (pathV lib) hT ix
structure PLoc where
 p : Nat
 kl : Nat
 pl : Nat
 ixl : Nat
noncomputable abbrev pO (W : WL) (P : PLoc) : O := .inst .Paths [(.store, .loc W.st), (.places, .loc P.pl), (.index, .loc P.ixl), (.known, .loc P.kl)]
structure PD (D : Facts) (W : WL) (S : Sv) (L : Facts) (lib name : String) (x : Nat) (types : List (String × Nat)) (rows : List (List Row)) (f k : Nat -> Nat) (P : PLoc) : Prop where
 laid : Laid S L lib x name types rows f k
 kt : KT S.ts
 sub : ∀ q ∈ gF W S L, q ∈ D
 pi : (P.p, pO W P) ∈ D
 pp : ∃ plkv, (P.pl, O.dict plkv) ∈ D /\ (∀ e ∈ plkv, kd e.1 = 1) /\ (∀ c, c < types.length -> dget plkv (.int (f c)) = some (.int c)) /\ ∀ tid : Nat, (∀ c, c < types.length -> f c ≠ tid) -> dget plkv (.int tid) = none
 lib : lib ≠ "core"
 nt : types.length ≤ 9
 rwf : ∀ rs ∈ rows, rs.length ≤ 2 /\ ∀ r ∈ rs, Rwf types.length r
 rlen : rows.length = types.length
noncomputable def oF (P : PLoc) (lib : String) (ix : List Tm) (kv : List (V × V)) (D : Facts) : Facts := (P.ixl, .dict (ixkv lib ix)) :: (P.kl, .dict kv) :: D
def Val (S : Sv) (f : Nat -> Nat) (nt : Nat) (t : Tm) : Prop := t = .T 99 ∨ (t.okc nt /\ t.sub f ∈ S.ts)
open Classical in
noncomputable def numK (S : Sv) (f : Nat -> Nat) (t : Tm) : Int := if t = .T 99 then -1 else (pos S.ts (t.sub f) : Nat)
noncomputable def nV (S : Sv) (f : Nat -> Nat) (t : Tm) : V := .int (numK S f t)
def Kn (S : Sv) (f : Nat -> Nat) (kv : List (V × V)) (t : Tm) : Prop := ∃ v, dget kv (nV S f t) = some v
structure KN (S : Sv) (f : Nat -> Nat) (nt : Nat) (ix : List Tm) (kv : List (V × V)) : Prop where
 k1 : ∀ e ∈ kv, kd e.1 = 1
 kn : ∀ t v, Val S f nt t -> dget kv (nV S f t) = some v -> t ∈ ix /\ v = posV ix t
structure Go (S : Sv) (f : Nat -> Nat) (nt : Nat) (ix : List Tm) (kv : List (V × V)) (ix' : List Tm) (kv' : List (V × V)) (w : Nat) : Prop where
 ok : IX ix'
 ext : Gro ix ix' w
 kn : KN S f nt ix' kv'
 len : kv'.length ≤ kv.length + w
 keep : ∀ t, Kn S f kv t -> Kn S f kv' t
section
variable {S : Sv} {f : Nat -> Nat} {nt v w : Nat} {ix ix' ix'' : List Tm} {kv kv' kv'' : List (V × V)} {t s : Tm}
theorem Go.refl (a : IX ix) (b : KN S f nt ix kv) : Go S f nt ix kv ix kv 0 := ⟨a, .refl, b, Nat.le_refl _, fun _ h => h⟩
theorem Go.trans (a : Go S f nt ix kv ix' kv' v) (b : Go S f nt ix' kv' ix'' kv'' w) : Go S f nt ix kv ix'' kv'' (v + w) :=
 ⟨b.ok, a.ext.trans b.ext, b.kn, Nat.le_trans b.len (Nat.le_trans (Nat.add_le_add_right a.len w) (Nat.le_of_eq (Nat.add_assoc _ _ _))), fun t h => b.keep t (a.keep t h)⟩
theorem Go.le (a : Go S f nt ix kv ix' kv' v) (h : v ≤ w) : Go S f nt ix kv ix' kv' w := ⟨a.ok, a.ext.le h, a.kn, Nat.le_trans a.len (Nat.add_le_add_left h _), a.keep⟩
theorem T99_no (h : t.okc nt) : t ≠ .T 99 := fun z => absurd (show 99 ≤ 1 by rw [z] at h; exact h) (by decide)
theorem Val.sub (hk : KT S.ts) (h : Val S f nt t) (hs : s ∈ t.subs) : Val S f nt s /\ s ≠ .T 99 := by
 rcases h with rfl | ⟨h1, h2⟩
 ·cases hs
 ·have h3 := okc_sub h1 hs
  exact ⟨.inr ⟨h3, hk.cl _ h2 _ (by rw [subs_sub]; exact List.mem_map_of_mem hs)⟩, T99_no h3⟩
theorem Val.tel (hn : nt ≤ 9) (h : Val S f nt t) : tel t := h.imp_right fun h => okc_le hn t h.1
theorem numK_of (h : t ≠ .T 99) : nV S f t = posV S.ts (t.sub f) := congrArg V.int (if_neg h)
theorem numK_99 : nV S f (.T 99) = .int (-1) := congrArg V.int (if_pos rfl)
end
open Classical in
noncomputable def invF (S : Sv) (x nt : Nat) (f : Nat -> Nat) (d : Nat) : Nat := match S.tyl[d]? with
 | some (some r) => if r.asm = x then (if h : ∃ c, c < nt /\ f c = d then Classical.choose h else 0) else if S.am[r.asm]? = some "core" then 12 else 10 + r.cnt
 | _ => 13
section
variable {D : Facts} {W : WL} {S : Sv} {L : Facts} {lib name : String} {x : Nat} {types : List (String × Nat)} {rows : List (List Row)} {f k : Nat -> Nat} {P : PLoc} {ix ix' : List Tm} {kv : List (V × V)} {t u : Tm} {v : V}
theorem inv_own {r : TyR} {d c : Nat} (h : S.tyl[d]? = some (some r)) (ha : r.asm = x) (hc : c < types.length) (hf : f c = d) (hu : ∀ c', c' < types.length -> f c' = d -> c' = c) : invF S x types.length f d = c := by
 have e : ∃ c, c < types.length /\ f c = d := ⟨c, hc, hf⟩
 unfold invF
 rw [h]
 show (if r.asm = x then _ else _) = c
 rw [if_pos ha, dif_pos e]
 exact hu _ (Classical.choose_spec e).1 (Classical.choose_spec e).2
theorem inv_wld {r : TyR} {d : Nat} {s : String} (h : S.tyl[d]? = some (some r)) (ha : r.asm ≠ x) (hs : S.am[r.asm]? = some s) : invF S x types.length f d = if some s = some "core" then 12 else 10 + r.cnt := by
 unfold invF
 rw [h]
 show (if r.asm = x then _ else _) = _
 rw [if_neg ha, hs]
theorem Laid.inv (ld : Laid S L lib x name types rows f k) (hl : lib ≠ "core") {c : Nat} (hc : vc types.length c) : invF S x types.length f (f c) = c := by
 rcases hc with hc | ⟨hc, hc'⟩
 ·refine ex2 (ld.std c _ _ (List.getElem?_eq_getElem hc)) fun z rs a => ex5 a.2.1.ex fun y _ _ _ _ b => inv_own b.1.1 rfl hc rfl fun d hd e => ?_
  rcases Nat.lt_trichotomy c d with z | z | z
  ·exact absurd e.symm (Nat.ne_of_lt (ld.mono c d z hd))
  ·exact z.symm
  ·exact absurd e (Nat.ne_of_lt (ld.mono d c z hc))
 ·obtain ⟨j, rfl⟩ := Nat.le.dest hc
  have wl : ∀ {c}, c = 10 ∨ c = 11 ∨ c = 12 -> invF S x types.length f (f c) = if some (if c = 12 then "core" else lib) = some "core" then 12 else 10 + (if c = 10 then 0 else 1) := fun hc => ex1 (ld.wld _ hc) fun asm a => ex5 a.1.ex fun y _ _ _ _ b => inv_wld b.1.1 a.2.2 a.2.1
  have ns : ¬ some lib = some "core" := fun e => hl (Option.some.inj e)
  rcases four (Nat.le_of_add_le_add_left (a := 10) hc') with rfl | rfl | rfl | rfl
  ·exact (wl (.inl rfl)).trans (if_neg ns)
  ·exact (wl (.inr (.inl rfl))).trans (if_neg ns)
  ·exact (wl (.inr (.inr rfl))).trans (if_pos rfl)
  ·show invF S x types.length f (f 13) = 13
   unfold invF
   rw [ld.t13.1, ld.t13.2.1]
theorem PD.numInj (pd : PD D W S L lib name x types rows f k P) (ht : Val S f types.length t) (hu : Val S f types.length u) (e : nV S f t = nV S f u) : t = u := by
 rcases ht with rfl | ⟨h1, h2⟩
 ·rcases hu with rfl | ⟨h3, h4⟩
  ·rfl
  ·rw [numK_99, numK_of (T99_no h3)] at e
   injection e with e; cases e
 ·rw [numK_of (T99_no h1)] at e
  rcases hu with rfl | ⟨h3, h4⟩
  ·rw [numK_99] at e
   injection e with e; cases e
  ·rw [numK_of (T99_no h3)] at e
   rw [<- sub_back (fun c hc => pd.laid.inv pd.lib hc) t h1, pos_inj h2 h4 (n_inj e), sub_back (fun c hc => pd.laid.inv pd.lib hc) u h3]
theorem KN.put (pd : PD D W S L lib name x types rows f k P) {w : Nat} (h : KN S f types.length ix kv) (he : Gro ix ix' w) (ht : Val S f types.length t) (hm : t ∈ ix') : KN S f types.length ix' (dput kv (nV S f t) (posV ix' t)) where
 k1 := dput_keys (p := fun k => kd k = 1) rfl h.k1
 kn := fun u v hu hv => by
  rcases dget_dput (k' := nV S f u) kv with ⟨e, g⟩ | ⟨e, g⟩
  ·rw [<- pd.numInj ht hu e]
   exact ⟨hm, Option.some.inj (hv.symm.trans g)⟩
  ·have := h.kn u v hu (g.symm.trans hv)
   exact ⟨he.mem this.1, this.2.trans (he.pos this.1).symm⟩
theorem Kn.put (h : Kn S f kv t) : Kn S f (dput kv (nV S f u) v) t := (dget_dput (k' := nV S f t) kv).elim (fun g => ⟨_, g.2⟩) fun g => ex1 h fun w hw => ⟨w, g.2.trans hw⟩
theorem Kn.new : Kn S f (dput kv (nV S f u) v) u := ⟨v, dget_put⟩
end
section
variable {D : Facts} {W : WL} {S : Sv} {L : Facts} {lib name : String} {x : Nat} {types : List (String × Nat)} {rows : List (List Row)} {f k : Nat -> Nat} {P : PLoc} {ix : List Tm} {kv : List (V × V)} {σ : St} {Q : Post}
theorem g_known (h : Sta σ (oF P lib ix kv D)) : σ[P.kl]? = some (.dict kv) := h.has.ix 1 rfl
theorem g_index (h : Sta σ (oF P lib ix kv D)) : σ[P.ixl]? = some (.dict (ixkv lib ix)) := h.has.ix 0 rfl
theorem g_D (h : Sta σ (oF P lib ix kv D)) {n : Nat} {o : O} (m : (n, o) ∈ D) : σ[n]? = some o := h.has (n, o) (.tail _ (.tail _ m))
theorem PD.gp (pd : PD D W S L lib name x types rows f k P) (h : Sta σ (oF P lib ix kv D)) : σ[P.p]? = some (pO W P) := g_D h pd.pi
theorem PD.gs (pd : PD D W S L lib name x types rows f k P) (h : Sta σ (oF P lib ix kv D)) : Has σ (gF W S L) := fun p hp => g_D h (pd.sub p hp)
theorem PD.gst (pd : PD D W S L lib name x types rows f k P) (h : Sta σ (oF P lib ix kv D)) : σ[W.st]? = some (stO W) := (pd.gs h).ix 9 rfl
theorem PD.gty (pd : PD D W S L lib name x types rows f k P) (h : Sta σ (oF P lib ix kv D)) : σ[W.ty]? = some (.list (S.tyl.map tyV)) := (pd.gs h).ix 10 rfl
theorem PD.gme (pd : PD D W S L lib name x types rows f k P) (h : Sta σ (oF P lib ix kv D)) : σ[W.me]? = some (.list S.mel) := (pd.gs h).ix 11 rfl
theorem PD.gam (pd : PD D W S L lib name x types rows f k P) (h : Sta σ (oF P lib ix kv D)) : σ[W.am]? = some (.list (S.am.map V.str)) := (pd.gs h).ix 13 rfl
theorem PD.gL (pd : PD D W S L lib name x types rows f k P) (h : Sta σ (oF P lib ix kv D)) {p : Nat × O} (hp : p ∈ L) : σ[p.1]? = some p.2 := pd.gs h p (List.mem_append_right _ (List.mem_append_right _ hp))
theorem PD.kr (pd : PD D W S L lib name x types rows f k P) (h : Sta σ (oF P lib ix kv D)) : KR W.K S.ts σ := ⟨(pd.gs h).ix 0 rfl, (pd.gs h).ix 1 rfl⟩
theorem kind_known {N : Nat} (pd : PD D W S L lib name x types rows f k P) (h : Sta σ (oF P lib ix kv D)) (kn : KN S f types.length ix kv) {t : Tm} (ht : Val S f types.length t) (hk : Kn S f kv t) (q : Q (posV ix t) σ) : wpF (N + 1) .Paths_kind [.loc P.p, nV S f t] Q σ := by
 refine ex1 hk fun v hv => ?_
 rw [<- (kn.kn t v ht hv).2] at q
 have gp := pd.gp h
 have gk := g_known h
 have kk : keyOk kv (nV S f t) := key1 kn.k1 _
 have e : (dget kv (nV S f t)).isSome = true := by rw [hv]; rfl
 refine enter2 rfl ?_
 delta body_Paths_kind
 (and_intros)
theorem kinds_known {N : Nat} (pd : PD D W S L lib name x types rows f k P) (h : Sta σ (oF P lib ix kv D)) (kn : KN S f types.length ix kv) {ts : List Tm} (hl : ts.length ≤ 10) (ht : ∀ t ∈ ts, Val S f types.length t /\ Kn S f kv t) (q : ∀ o, Q (.tup (ts.map (posV ix))) (σ ++ [o])) : wpF (N + 2) .Paths_kinds [.loc P.p, .tup (ts.map (nV S f))] Q σ := by
 have gp := pd.gp h
 have l1 : Nat.ble (ts.map (nV S f)).length lim = true := by rw [List.length_map]; exact lim_of (Nat.le_trans hl (by decide))
 have loop : ∀ (l : List Tm) (acc : List V) {Q' : List V -> St -> Prop}, (∀ t ∈ l, Val S f types.length t /\ Kn S f kv t) -> Q' (acc ++ l.map (posV ix)) σ ->
   compW (fun _ => True) (tgt 0) (fun _ Q σ => Q (.bool true) σ) (fun κ' Q' σ' => wpE (wpF (N + 1)) ce_Paths_kinds_0 κ' (kOne Q') [some (.loc P.p), some (.tup (ts.map (nV S f)))] σ' []) (l.map (nV S f)) acc Q' σ := by
  intro l
  induction l with
  | nil => exact fun acc Q' _ q => ⟨trivial, by rwa [List.map_nil, List.append_nil] at q⟩
  | cons t l ih =>
   intro acc Q' hl q
   rw [List.map_cons, <- List.singleton_append, <- List.append_assoc] at q
   have key := ih _ (fun u hu => hl u (.tail _ hu)) q
   refine ⟨trivial, [nV S f t], rfl, .tt ?_⟩
   delta ce_Paths_kinds_0
   (and_intros)
   exact kind_known pd h kn (hl t (.head _)).1 (hl t (.head _)).2 key
 refine enter2 rfl ?_
 delta body_Paths_kinds
 (and_intros)
 refine loop ts [] ht ?_
 (and_intros)
 exact q _
theorem while2 {test : Kt -> Nt} {body : Nt -> Nt} {N : Nt} {ρ1 ρ2 : Fr} {σ1 σ2 : St} (h1 : ∀ N' : Nt, N' ρ2 σ2 -> test (IfW (kN (body N')) (kN N)) ρ1 σ1) (h2 : ∀ A, test (IfW A (kN N)) ρ2 σ2) : whileW test body N ρ1 σ1 :=
 ⟨fun n ρ σ => (n = 1 /\ ρ = ρ1 /\ σ = σ1) ∨ (n = 0 /\ ρ = ρ2 /\ σ = σ2), ⟨1, .inl ⟨rfl, rfl, rfl⟩⟩, fun n ρ σ h => by
  rcases h with ⟨rfl, rfl, rfl⟩ | ⟨rfl, rfl, rfl⟩
  ·exact h1 _ ⟨0, Nat.one_pos, .inr ⟨rfl, rfl, rfl⟩⟩
  ·exact h2 _⟩
theorem standing_spec {N : Nat} {l : Nat} {vs : List V} {n : Nat} {w : V} {v : V} (h : σ[l]? = some (.list vs)) (hv : vs[n]? = some v) (hn : 0 < n) (q : Q v σ) : wpF (N + 1) .standing [.loc l, .int n, w] Q σ := by
 have e1 : ¬ (n : Int) ≤ 0 := Int.not_le.mpr (Int.natCast_pos.mpr hn)
 have e2 : ¬ (vs.length : Int) ≤ (n : Int) := Int.not_le.mpr (Int.ofNat_lt.mpr (len_of hv))
 refine enter3 rfl ?_
 delta body_standing
 (and_intros)
theorem type_path_spec {N : Nat} (pd : PD D W S L lib name x types rows f k P) (h : Sta σ (oF P lib ix kv D)) {c : Nat} (hc : vc types.length c) (q : ∀ σ', Upd (oF P lib ix kv D) (oF P lib ix kv D) σ σ' -> Q (pathV lib c) σ') : wpF (N + 2) .type_path [.loc P.p, .int (f c)] Q σ := by
 have gp := pd.gp h
 have gst := pd.gst h
 refine ex1 pd.pp fun plkv pp => ?_
 have gpl := g_D h pp.1
 have kk : ∀ {n : Nat}, keyOk plkv (.int n) := key1 pp.2.1 _
 have fj : ∀ {d}, vc types.length d -> f d = f c -> d = c := fun hd e => (pd.laid.inv pd.lib hd).symm.trans ((congrArg _ e).trans (pd.laid.inv pd.lib hc))
 rcases hc with hc | ⟨hc, hc'⟩
 ·have e0 : ¬ (f c : Int) = 0 := ex2 (pd.laid.std c _ _ (List.getElem?_eq_getElem hc)) fun z rs a e => absurd (Int.ofNat.inj e) (Nat.ne_of_gt (Nat.lt_of_lt_of_le (by decide) a.2.1.lo))
  have e1 := pp.2.2.1 c hc
  have e2 : (dget plkv (.int (f c))).isSome = true := by rw [e1]; rfl
  have k1 := kk (n := f c)
  have e3 : pathV lib c = .tup [.int c] := if_pos (Nat.lt_of_lt_of_le hc (Nat.le_trans pd.nt (by decide)))
  have fin := q σ h.refl
  rw [e3] at fin
  refine enter2 rfl ?_
  delta body_type_path
  (and_intros)
  exact fin
 ·have hno : ∀ {n : Nat}, f c = n -> (dget plkv (.int n)).isSome = false := fun e => by
   rw [<- e, pp.2.2.2 (f c) fun d hd e => Nat.lt_irrefl d (Nat.lt_of_lt_of_le hd (Nat.le_trans pd.nt (Nat.le_trans (by decide) (fj (.inl hd) e ▸ hc))))]
   rfl
  have gty := pd.gty h
  by_cases h13 : c = 13
  ·subst h13
   have hno := hno pd.laid.t13.1
   have hty : (S.tyl.map tyV)[37]? = some .none := by rw [List.getElem?_map, pd.laid.t13.2.1]; rfl
   have k1 := kk (n := 37)
   have fin : Q (.tup [.str "", .int 37]) σ := q σ h.refl
   rw [pd.laid.t13.1]
   refine enter2 rfl ?_
   delta body_type_path
   (and_intros)
   refine wpF_le (n := 1) (Nat.le_add_left 1 N) (standing_spec (N := 0) (n := 37) gty hty (by decide) ?_)
   (and_intros)
   exact fin
  ·have hc3 : c = 10 ∨ c = 11 ∨ c = 12 := by
    obtain ⟨j, rfl⟩ := Nat.le.dest hc
    rcases four (Nat.le_of_add_le_add_left (a := 10) hc') with rfl | rfl | rfl | rfl
    ·exact .inl rfl
    ·exact .inr (.inl rfl)
    ·exact .inr (.inr rfl)
    ·exact absurd rfl h13
   refine ex1 (pd.laid.wld c hc3) fun asm a => ex5 a.1.ex fun y _ _ _ _ b => ?_
   have hpos : 0 < f c := Nat.lt_of_lt_of_le (by decide) a.1.lo
   have e0 : ¬ (f c : Int) = 0 := fun e => absurd (Int.ofNat.inj e) (Nat.ne_of_gt hpos)
   have e1 : (0 : Int) < (f c : Int) := Int.natCast_pos.mpr hpos
   have hty : (S.tyl.map tyV)[f c]? = some (.loc y) := tyl_at b.1.1
   have hty0 : (S.tyl.map tyV)[0]? = some .none := by rw [List.getElem?_map, pd.laid.t0.1]; rfl
   have gy : σ[y]? = some (.inst .TypeDef (tyFs y (f c) "A" asm)) := pd.gL h (p := (y, _)) (b.2.1 _ (.head _))
   have gy2 : σ[y + 2]? = some (.list (prm (if c = 10 then 0 else 1))) := pd.gL h (p := (y + 2, _)) (b.2.1 _ (List.mem_of_getElem? (i := 2) rfl))
   have ham : (S.am.map V.str)[asm]? = some (.str (if c = 12 then "core" else lib)) := by rw [List.getElem?_map, a.2.1]; rfl
   have gam := pd.gam h
   have k1 := kk (n := f c)
   have hno := hno rfl
   have fin : Q (.tup [.str (if c = 12 then "core" else lib), .str "A", .int (prm (if c = 10 then 0 else 1)).length]) (σ ++ [.list [.str (if c = 12 then "core" else lib), .str "A", .int (prm (if c = 10 then 0 else 1)).length]]) := by
    have := q _ (h.grow [.list [.str (if c = 12 then "core" else lib), .str "A", .int (prm (if c = 10 then 0 else 1)).length]])
    rcases hc3 with rfl | rfl | rfl <;> exact this
   generalize (prm (if c = 10 then 0 else 1)) = pm at gy2 fin
   generalize (if c = 12 then "core" else lib) = s at ham fin
   refine enter2 rfl ?_
   delta body_type_path
   refine cut_ite fun W0 hW0 => ?_
   (and_intros)
   refine hW0 _ _ (cut_ite fun W1 hW1 => ?_)
   (and_intros)
   refine hW1 _ _ (cut_set fun W2 hW2 => ?_)
   (and_intros)
   refine wpF_le (n := 1) (Nat.le_add_left 1 N) (standing_spec (N := 0) (n := f c) gty hty hpos ?_)
   (and_intros)
   refine hW2 _ _ (cut_ite fun W3 hW3 => ?_)
   (and_intros)
   refine hW3 _ _ (cut_set fun W4 hW4 => ?_)
   (and_intros)
   refine hW4 _ _ (while2 (ρ2 := [some (.loc P.p), some (.int (f c)), some .none, some (.loc σ.length)]) (σ2 := σ ++ [.list [.str s, .str "A", .int pm.length]]) (fun N' hN' => ?_) fun A => ?_)
   ·delta lb_type_path_0
    (sizeOf_list_dec)
    exact hN'
   ·delta lk_type_path_0
    (and_intros)
end
section
variable {D : Facts} {W : WL} {S : Sv} {L : Facts} {lib name : String} {x : Nat} {types : List (String × Nat)} {rows : List (List Row)} {f k : Nat -> Nat} {P : PLoc} {ix : List Tm} {kv : List (V × V)} {σ : St} {Q : Post} {t : Tm}
theorem Val.cases (ht : Val S f types.length t) : t = .T 99 ∨ (t.okc types.length /\ t.sub f ∈ S.ts /\ nV S f t = posV S.ts (t.sub f) /\ ¬ (pos S.ts (t.sub f) : Int) = -1) :=
 ht.imp_right fun h => ⟨h.1, h.2, numK_of (T99_no h.1), fun e => absurd (e ▸ Int.natCast_nonneg _ : (0 : Int) ≤ -1) (by decide)⟩
theorem nV_subs (pd : PD D W S L lib name x types rows f k P) (ht : Val S f types.length t) : (t.sub f).subs.map (posV S.ts) = t.subs.map (nV S f) := by
 rw [subs_sub, List.map_map]
 exact List.map_congr_left fun s hs => (numK_of (Val.sub pd.kt ht hs).2).symm
theorem path_parts_spec {N : Nat} (pd : PD D W S L lib name x types rows f k P) (h : Sta σ (oF P lib ix kv D)) (ht : Val S f types.length t) (q : Q (.tup (t.subs.map (nV S f))) σ) : wpF (N + 2) .path_parts [.loc P.p, nV S f t] Q σ := by
 rcases ht.cases with rfl | a
 ·rw [numK_99]
  refine enter2 rfl ?_
  delta body_path_parts
  (and_intros)
  exact q
 ·have gp := pd.gp h
  have gst := pd.gst h
  have kr := pd.kr h
  have g1 := kr.kt
  have e1 := a.2.2.2
  rw [<- nV_subs pd ht] at q
  rw [a.2.2.1]
  refine enter2 rfl ?_
  delta body_path_parts
  (and_intros)
  refine KR.row kr a.2.1 ?_
  (and_intros)
  exact inner_spec q
theorem kind_path_spec {N : Nat} (pd : PD D W S L lib name x types rows f k P) (h : Sta σ (oF P lib ix kv D)) (kn : KN S f types.length ix kv) (ht : Val S f types.length t) (hs : ∀ s ∈ t.subs, Kn S f kv s) (q : ∀ σ', Upd (oF P lib ix kv D) (oF P lib ix kv D) σ σ' -> Q (keyV lib ix t) σ') : wpF (N + 3) .kind_path [.loc P.p, nV S f t] Q σ := by
 have fin := q σ h.refl
 rcases ht.cases with rfl | a
 ·rw [numK_99]
  refine enter2 rfl ?_
  delta body_kind_path
  (and_intros)
  exact fin
 ·have gp := pd.gp h
  have gst := pd.gst h
  have kr := pd.kr h
  have g1 := kr.kt
  have e1 := a.2.2.2
  have vs : ∀ s ∈ t.subs, Val S f types.length s /\ s ≠ .T 99 := fun s hs => Val.sub pd.kt ht hs
  rw [a.2.2.1]
  rcases tmV t with n | _ | n | s | ⟨c, l, hl⟩
  ·refine enter2 rfl ?_
   delta body_kind_path
   (and_intros)
   refine KR.row kr a.2.1 ?_
   (and_intros)
   exact fin
  ·refine enter2 rfl ?_
   delta body_kind_path
   (and_intros)
   refine KR.row kr a.2.1 ?_
   (and_intros)
   refine enter2 rfl ?_
   delta body_is_var
   (and_intros)
   refine KR.row kr a.2.1 ?_
   (and_intros)
   exact fin
  ·have e3 : keyV lib ix (.T n) = .tup [.int 6, .int n] := if_neg fun e => T99_no a.1 (congrArg Tm.T e)
   rw [e3] at fin
   refine enter2 rfl ?_
   delta body_kind_path
   (and_intros)
   refine KR.row kr a.2.1 ?_
   (and_intros)
   refine enter2 rfl ?_
   delta body_is_var
   (and_intros)
   refine KR.row kr a.2.1 ?_
   (and_intros)
   exact fin
  ·have v := vs s (.head _)
   have key := kind_known (N := N + 1) (Q := fun v σ => Q (.tup [.int 4, v]) σ) pd h kn v.1 (hs s (.head _)) fin
   rw [numK_of v.2] at key
   refine enter2 rfl ?_
   delta body_kind_path
   (and_intros)
   refine KR.row kr a.2.1 ?_
   (and_intros)
   refine enter2 rfl ?_
   delta body_is_var
   (and_intros)
   refine KR.row kr a.2.1 ?_
   (and_intros)
   exact key
  ·have hl2 : (l.map (Tm.sub f)).length ≤ 2 := by rw [List.length_map]; exact hl
   have er : rowV S.ts ((mkC c l).sub f) = .tup [.int 2, .int (f c), .tup (l.map (nV S f))] := by
    rw [sub_mkC hl, rowV_mkC hl2]
    have := nV_subs pd ht
    rw [sub_mkC hl, subs_mkC hl2, subs_mkC hl] at this
    rw [this]
   have ek : keyV lib ix (mkC c l) = .tup [.int 2, pathV lib c, .tup (l.map (posV ix))] := rowG_mkC hl
   rw [subs_mkC hl] at vs hs
   rw [ek] at q
   have hc : vc types.length c := okc_top a.1 (top_mkC hl)
   refine enter2 rfl ?_
   delta body_kind_path
   (and_intros)
   refine KR.row kr a.2.1 ?_
   rw [er]
   (and_intros)
   refine type_path_spec pd h hc fun σ1 U1 => ?_
   have gp1 := pd.gp U1.sta
   (and_intros)
   refine kinds_known pd U1.sta kn (Nat.le_trans hl (by decide)) (fun s hss => ⟨(vs s hss).1, hs s hss⟩) fun o => ?_
   (and_intros)
   exact q _ (U1.trans (U1.sta.grow [o]))
end
section
variable {D : Facts} {W : WL} {S : Sv} {L : Facts} {lib name : String} {x : Nat} {types : List (String × Nat)} {rows : List (List Row)} {f k : Nat -> Nat} {P : PLoc} {ix : List Tm} {kv kv' : List (V × V)} {σ : St} {t : Tm} {td : Nat}
theorem PD.more {p : Nat × O} (pd : PD D W S L lib name x types rows f k P) : PD (p :: D) W S L lib name x types rows f k P :=
 ⟨pd.laid, pd.kt, fun q hq => .tail _ (pd.sub q hq), .tail _ pd.pi, ex1 pd.pp fun pl h => ⟨pl, .tail _ h.1, h.2⟩, pd.lib, pd.nt, pd.rwf, pd.rlen⟩
noncomputable def unk (S : Sv) (f : Nat -> Nat) (kv : List (V × V)) (cs : List Tm) : List Tm := cs.filter fun c => !(dget kv (nV S f c)).isSome
theorem unk_mem {cs : List Tm} {c : Tm} (h : c ∈ cs) : Kn S f kv c ∨ c ∈ unk S f kv cs := by
 cases e : dget kv (nV S f c) with
 | some v => exact .inl ⟨v, e⟩
 | none => exact .inr (List.mem_filter.mpr ⟨h, by rw [e]; rfl⟩)
theorem unk_no {cs : List Tm} {c : Tm} (h : c ∈ unk S f kv cs) : c ∈ cs /\ ¬ Kn S f kv c := ⟨(List.mem_filter.mp h).1, fun ⟨v, e⟩ => by have := (List.mem_filter.mp h).2; rw [e] at this; cases this⟩
theorem push_loop {n : Nat} {R : Post} {N : Nt} {x1 x3 x5 : Option V} (pd : PD D W S L lib name x types rows f k P) (kn : KN S f types.length ix kv) : ∀ (cs : List Tm) {T : List V} {σ : St} {x4 : Option V}, T.length + cs.length ≤ 90000 -> Sta σ (oF P lib ix kv ((td, .list T) :: D)) ->
  (∀ σ' x4, Upd (oF P lib ix kv ((td, .list T) :: D)) (oF P lib ix kv ((td, .list (T ++ (unk S f kv cs).map (nV S f))) :: D)) σ σ' -> N [some (.loc P.p), x1, some (.loc td), x3, x4, x5] σ') ->
  forW (fun _ => True) false [4] (wpS (wpF n) R lb_learn_kind_1) (cs.map (nV S f)) N [some (.loc P.p), x1, some (.loc td), x3, x4, x5] σ := by
 intro cs
 induction cs with
 | nil => exact fun {T σ x4} hl h q => ⟨trivial, q σ x4 (by rw [show (unk S f kv []).map (nV S f) = [] from rfl, List.append_nil]; exact h.refl)⟩
 | cons c cs ih =>
  intro T σ x4 hl h q
  have gp := pd.more.gp h
  have gk := g_known h
  have gt : σ[td]? = some (.list T) := g_D h (.head _)
  have kk : keyOk kv (nV S f c) := key1 kn.k1 _
  have hl' : T.length + 1 + cs.length ≤ 90000 := by rw [Nat.add_assoc, Nat.add_comm 1]; exact hl
  refine ⟨trivial, ?_⟩
  cases e : (dget kv (nV S f c)).isSome with
  | true =>
   have eu : unk S f kv (c :: cs) = unk S f kv cs := List.filter_cons_of_neg (by rw [e]; decide)
   rw [eu] at q
   have key := ih (x4 := some (nV S f c)) (Nat.le_trans (Nat.add_le_add_right (Nat.le_succ _) _) hl') h q
   delta lb_learn_kind_1
   (and_intros)
   exact key
  | false =>
   have eu : unk S f kv (c :: cs) = c :: unk S f kv cs := List.filter_cons_of_pos (by rw [e]; decide)
   have l1 : Nat.blt T.length lim = true := lim_of (Nat.le_trans (Nat.le_trans (Nat.le_add_right _ _) hl') (by decide))
   have U1 : Upd _ (oF P lib ix kv ((td, .list (T ++ [nV S f c])) :: D)) _ _ := h.setIx 2 (o' := .list (T ++ [nV S f c])) rfl
   have key := ih (x4 := some (nV S f c)) (T := T ++ [nV S f c]) (by rw [List.length_append]; exact hl') U1.sta fun σ' x4 U => q σ' x4 (by
    rw [List.append_assoc] at U
    rw [eu]
    exact U1.trans U)
   delta lb_learn_kind_1
   (and_intros)
   exact key
theorem learn_pop {N : Nat} {R : Post} {Nn : Nt} {l : List V} {x1 x4 x5 : Option V} (pd : PD D W S L lib name x types rows f k P) (h : Sta σ (oF P lib ix kv ((td, .list (l ++ [nV S f t])) :: D))) (hix : IX ix) (kn : KN S f types.length ix kv) (ht : Val S f types.length t) (hs : ∀ s ∈ t.subs, Kn S f kv s) (hl1 : ix.length ≤ 90000) (hl2 : kv.length ≤ 90000)
  (q : ∀ ix' kv' σ' x5, Go S f types.length ix kv ix' kv' 1 -> Kn S f kv' t -> Upd (oF P lib ix kv ((td, .list (l ++ [nV S f t])) :: D)) (oF P lib ix' kv' ((td, .list l) :: D)) σ σ' -> Nn [some (.loc P.p), x1, some (.loc td), some (nV S f t), x4, x5] σ') :
  wpS (wpF (N + 3)) R lk_learn_kind_1 Nn [some (.loc P.p), x1, some (.loc td), some (nV S f t), x4, x5] σ := by
 have gt : σ[td]? = some (.list (l ++ [nV S f t])) := g_D h (.head _)
 have U1 : Upd _ (oF P lib ix kv ((td, .list l) :: D)) _ _ := h.setIx 2 (o' := .list l) rfl
 have hsub : ∀ s ∈ t.subs, s ∈ ix := fun s hss => ex1 (hs s hss) fun v hv => (kn.kn s v (Val.sub pd.kt ht hss).1 hv).1
 have htel := ht.tel pd.nt
 have kk : keyOk kv (nV S f t) := key1 kn.k1 _
 have l2 : Nat.blt kv.length lim = true := lim_of (Nat.le_trans (Nat.succ_le_succ hl2) (by decide))
 have l3 : (ixkv lib ix).length = ix.length := List.length_map _
 have l4 : Nat.blt (ixkv lib ix).length lim = true := by rw [l3]; exact lim_of (Nat.le_trans (Nat.succ_le_succ hl1) (by decide))
 have k2 : keyOk (ixkv lib ix) (keyV lib ix t) := kvG_ok (keyGH pd.lib) ix t
 have nx : ∃ ix', IX ix' /\ Gro ix ix' 1 /\ t ∈ ix' /\ dsd (ixkv lib ix) (keyV lib ix t) (.int (ixkv lib ix).length) = (posV ix' t, ixkv lib ix') := by
  by_cases hm : t ∈ ix
  ·exact ⟨ix, hix, .refl, hm, by unfold dsd; rw [show dget (ixkv lib ix) (keyV lib ix t) = _ from kvG_get (keyGH pd.lib) hix.cl hix.ok hm]⟩
  ·refine ⟨ix ++ [t], hix.add hm hsub htel, ⟨[t], rfl, Nat.le_refl 1⟩, List.mem_append_right _ (.head _), ?_⟩
   unfold dsd
   rw [show dget (ixkv lib ix) (keyV lib ix t) = _ from dget_none (kvG_none (keyGH pd.lib) hix.cl hix.ok htel hm hsub), l3]
   unfold posV ixkv
   rw [pos_new hm, kvG_add hix.cl hm hsub]
   rfl
 refine ex1 nx fun ix' nx => ?_
 have e1 := nx.2.2.2
 have e2 : numK S f t = numK S f t := rfl
 have el : (l ++ [nV S f t]).getLast? = some (nV S f t) := List.getLast?_concat
 have ed : (l ++ [nV S f t]).dropLast = l := List.dropLast_concat
 delta lk_learn_kind_1
 refine cut_ite fun W0 hW0 => ?_
 (and_intros)
 rw [ed]
 refine kind_path_spec pd.more U1.sta kn ht hs fun σ2 U2 => ?_
 have gp2 := pd.more.gp U2.sta
 have gi2 := g_index U2.sta
 have U3 : Upd _ (oF P lib ix' kv ((td, .list l) :: D)) _ _ := U2.sta.setIx 0 (o' := .dict (ixkv lib ix')) rfl
 have gp3 := pd.more.gp U3.sta
 have gk3 := g_known U3.sta
 have U4 : Upd _ (oF P lib ix' (dput kv (nV S f t) (posV ix' t)) ((td, .list l) :: D)) _ _ := U3.sta.setIx 1 (o' := .dict (dput kv (nV S f t) (posV ix' t))) rfl
 have fin := fun x5 => q ix' _ _ x5 ⟨nx.1, nx.2.1, kn.put pd nx.2.1 ht nx.2.2.1, dput_len _, fun u hu => hu.put⟩ .new (((U1.trans U2).trans U3).trans U4)
 (and_intros)
 exact hW0 _ _ (fin _)
end
abbrev Stk := List (Tm × Bool)
noncomputable def phi : Stk -> Nat
 | [] => 0
 | (t, b) :: s => (bif b then 1 else 2 * t.wt) + phi s
noncomputable def fls (us : List Tm) (s : Stk) : Stk := us.foldl (fun s u => (u, false) :: s) s
noncomputable def Ws : List Tm -> Nat
 | [] => 0
 | u :: us => u.wt + Ws us
theorem phi_fls : ∀ (us : List Tm) (s : Stk), phi (fls us s) = 2 * Ws us + phi s
 | [], s => (Nat.zero_add _).symm
 | u :: us, s => (phi_fls us _).trans (by
  show 2 * Ws us + (2 * u.wt + phi s) = 2 * (u.wt + Ws us) + phi s
  rw [Nat.mul_add, Nat.add_comm (2 * u.wt) (2 * Ws us), Nat.add_assoc])
theorem len_phi : ∀ s : Stk, s.length ≤ phi s
 | [] => Nat.le_refl 0
 | (t, true) :: s => Nat.le_trans (Nat.le_of_eq (Nat.add_comm _ _)) (Nat.add_le_add_left (len_phi s) 1)
 | (t, false) :: s => Nat.le_trans (Nat.le_of_eq (Nat.add_comm _ _)) (Nat.add_le_add (Nat.le_trans (wt_pos t) (Nat.le_mul_of_pos_left _ (by decide))) (len_phi s))
theorem Ws_filter {p : Tm -> Bool} : ∀ l : List Tm, Ws (l.filter p) ≤ Ws l
 | [] => Nat.le_refl 0
 | u :: l => by
  cases h : p u with
  | true => rw [List.filter_cons_of_pos h]; exact Nat.add_le_add_left (Ws_filter l) _
  | false => rw [List.filter_cons_of_neg (by rw [h]; decide)]; exact Nat.le_trans (Ws_filter l) (Nat.le_add_left _ _)
theorem subs_le (t : Tm) : t.subs.length ≤ 2 := by
 cases t with
 | c2 c x y => exact Nat.le_refl 2
 | a t => exact Nat.le_add_left 1 1
 | c1 c t => exact Nat.le_add_left 1 1
 | _ => exact Nat.zero_le 2
theorem Ws_subs (t : Tm) : Ws t.subs + 1 ≤ t.wt := by
 cases t with
 | c2 c x y => exact Nat.le_of_eq (by show x.wt + (y.wt + 0) + 1 = 1 + x.wt + y.wt; omega)
 | a t => exact Nat.le_of_eq (by show t.wt + 0 + 1 = 1 + t.wt; rw [Nat.add_zero, Nat.add_comm])
 | c1 c t => exact Nat.le_of_eq (by show t.wt + 0 + 1 = 1 + t.wt; rw [Nat.add_zero, Nat.add_comm])
 | _ => exact Nat.le_refl 1
theorem phi_push {t : Tm} {p : Tm -> Bool} {s : Stk} : phi (fls (t.subs.filter p) ((t, true) :: s)) < phi ((t, false) :: s) := by
 rw [phi_fls]
 show 2 * Ws _ + (1 + phi s) < 2 * t.wt + phi s
 have h := Nat.le_trans (Nat.add_le_add_right (Ws_filter (p := p) t.subs) 1) (Ws_subs t)
 omega
theorem fls_mem {us : List Tm} : ∀ {s : Stk} {e : Tm × Bool}, e ∈ s -> e ∈ fls us s := by
 induction us with
 | nil => exact id
 | cons u us ih => exact fun h => ih (.tail _ h)
theorem fls_all {P : Tm -> Prop} {us : List Tm} : ∀ {s : Stk}, (∀ e ∈ s, P e.1) -> (∀ u ∈ us, P u) -> ∀ e ∈ fls us s, P e.1 := by
 induction us with
 | nil => exact fun h _ => h
 | cons u us ih => exact fun h g => ih (List.forall_mem_cons.mpr ⟨g u (.head _), h⟩) fun v hv => g v (.tail _ hv)
theorem fls_map {F : Tm -> V} {us : List Tm} : ∀ {s : Stk}, ((fls us s).map fun e => F e.1).reverse = (s.map fun e => F e.1).reverse ++ us.map F := by
 induction us with
 | nil => exact (List.append_nil _).symm
 | cons u us ih => exact fun {s} => ih.trans (by rw [List.map_cons, List.reverse_cons, List.append_assoc]; rfl)
section
variable {S : Sv} {f : Nat -> Nat} {kv kv' : List (V × V)}
noncomputable def InvS (S : Sv) (f : Nat -> Nat) (kv : List (V × V)) : List Tm -> Stk -> Prop
 | _, [] => True
 | A, (t, b) :: s => (b = true -> ∀ c ∈ t.subs, Kn S f kv c ∨ c ∈ A) /\ InvS S f kv (t :: A) s
theorem InvS.mono (hk : ∀ c, Kn S f kv c -> Kn S f kv' c) : ∀ {s : Stk} {A A' : List Tm}, (∀ c ∈ A, Kn S f kv' c ∨ c ∈ A') -> InvS S f kv A s -> InvS S f kv' A' s
 | [], _, _, _, _ => trivial
 | (t, b) :: s, A, A', hA, h => ⟨fun e c hc => (h.1 e c hc).elim (fun z => .inl (hk c z)) (hA c), InvS.mono hk (List.forall_mem_cons.mpr ⟨.inr (.head _), fun c hc => (hA c hc).imp_right (.tail _)⟩) h.2⟩
theorem InvS.fls : ∀ {us : List Tm} {A : List Tm} {s : Stk}, (∀ B, (∀ c, c ∈ us ∨ c ∈ A -> c ∈ B) -> InvS S f kv B s) -> InvS S f kv A (fls us s)
 | [], A, s, h => h A fun c hc => hc.resolve_left List.not_mem_nil
 | u :: us, A, s, h => InvS.fls (us := us) fun B hB => ⟨nofun, h (u :: B) fun c hc => hc.elim (fun z => (List.mem_cons.mp z).elim (fun e => e ▸ .head _) fun z => .tail _ (hB c (.inl z))) fun z => .tail _ (hB c (.inr z))⟩
end
section
variable {D : Facts} {W : WL} {S : Sv} {L : Facts} {lib name : String} {x : Nat} {types : List (String × Nat)} {rows : List (List Row)} {f k : Nat -> Nat} {P : PLoc} {ix ix' : List Tm} {kv kv' : List (V × V)} {σ σ' : St} {t0 : Tm} {td : Nat} {Q : Post}
structure LI (D : Facts) (S : Sv) (f : Nat -> Nat) (nt : Nat) (P : PLoc) (lib : String) (td : Nat) (fs : Facts) (ix : List Tm) (kv : List (V × V)) (σ : St) (t0 : Tm) (s : Stk) (ix' : List Tm) (kv' : List (V × V)) (σ' : St) (w : Nat) : Prop where
 g : Go S f nt ix kv ix' kv' w
 w : w + phi s ≤ 80
 inv : InvS S f kv' [] s
 val : ∀ e ∈ s, Val S f nt e.1
 bot : Kn S f kv' t0 ∨ ∃ b, (t0, b) ∈ s
 U : Upd fs (oF P lib ix' kv' ((td, .list (s.map fun e => nV S f e.1).reverse) :: D)) σ σ'
theorem learn_turn {N : Nat} {R : Post} {Nn : Nt} {fs : Facts} {t : Tm} {b : Bool} {s : Stk} {w : Nat} {x1 x3 x4 x5 : Option V} (pd : PD D W S L lib name x types rows f k P) (i : LI D S f types.length P lib td fs ix kv σ t0 ((t, b) :: s) ix' kv' σ' w) (hl1 : ix.length ≤ 80000) (hl2 : kv.length ≤ 80000)
  (q : ∀ s' ix'' kv'' σ'' w' x3 x4 x5, phi s' < phi ((t, b) :: s) -> LI D S f types.length P lib td fs ix kv σ t0 s' ix'' kv'' σ'' w' -> Nn [some (.loc P.p), x1, some (.loc td), x3, x4, x5] σ'') :
  wpS (wpF (N + 3)) R lb_learn_kind_0 Nn [some (.loc P.p), x1, some (.loc td), x3, x4, x5] σ' := by
 have e0 : (((t, b) :: s).map fun e => nV S f e.1).reverse = (s.map fun e => nV S f e.1).reverse ++ [nV S f t] := List.reverse_cons
 have h := i.U.sta
 rw [e0] at h
 generalize hl : (s.map fun e => nV S f e.1).reverse = l at e0 h
 have gt : σ'[td]? = some (.list (l ++ [nV S f t])) := g_D h (.head _)
 have el : (l ++ [nV S f t]).getLast? = some (nV S f t) := List.getLast?_concat
 have ht : Val S f types.length t := i.val _ (.head _)
 have hw80 : w ≤ 80 := Nat.le_trans (Nat.le_add_right _ _) i.w
 have hlen : l.length ≤ 80 := by
  rw [<- hl, List.length_reverse, List.length_map]
  exact Nat.le_trans (len_phi s) (Nat.le_trans (Nat.le_trans (Nat.le_add_left _ _) (Nat.le_add_left _ _)) i.w)
 delta lb_learn_kind_0
 refine cut_set fun W0 hW0 => ?_
 (and_intros)
 refine hW0 _ _ (cut_loop fun W1 hW1 => ?_)
 (and_intros)
 refine path_parts_spec (N := N + 1) pd.more h ht (hW1 _ _ _ (.mk (.tup _) (push_loop pd i.g.kn t.subs (by rw [List.length_append]; exact Nat.le_trans (Nat.add_le_add (Nat.add_le_add_right hlen 1) (Nat.le_trans (Nat.le_trans (Nat.le_of_eq rfl) (subs_le t)) (Nat.le_refl 2))) (by decide)) h fun σ1 y4 U1 => ?_)))
 rcases List.eq_nil_or_concat (unk S f kv' t.subs) with eu | ⟨us, u, eu⟩
 ·-- nothing has been pushed
  rw [eu, List.map_nil, List.append_nil] at U1
  have hk : ∀ c ∈ t.subs, Kn S f kv' c := fun c hc => (unk_mem hc).resolve_right (by rw [eu]; exact List.not_mem_nil)
  refine learn_pop pd U1.sta i.g.ok i.g.kn ht hk (Nat.le_trans i.g.ext.len (Nat.le_trans (Nat.add_le_add hl1 hw80) (by decide))) (Nat.le_trans i.g.len (Nat.le_trans (Nat.add_le_add hl2 hw80) (by decide))) fun ix2 kv2 σ2 y5 g2 kt U2 => q s ix2 kv2 σ2 (w + 1) _ _ _ ?_ ⟨i.g.trans g2, ?_, i.inv.2.mono g2.keep fun c hc => .inl (List.mem_singleton.mp hc ▸ kt), fun e he => i.val e (.tail _ he), ?_, ?_⟩
  ·exact Nat.lt_add_of_pos_left (by cases b; exact Nat.mul_pos (by decide) (wt_pos t); exact Nat.one_pos)
  ·refine Nat.le_trans (Nat.le_of_eq (Nat.add_assoc w 1 _)) (Nat.le_trans (Nat.add_le_add_left (Nat.add_le_add_right ?_ _) w) i.w)
   cases b
   ·exact Nat.mul_pos (by decide) (wt_pos t)
   ·exact Nat.le_refl 1
  ·rcases i.bot with z | ⟨b', z⟩
   ·exact .inl (g2.keep _ z)
   ·rcases List.mem_cons.mp z with z | z
    ·cases z; exact .inl kt
    ·exact .inr ⟨b', z⟩
  ·have U0 := i.U
   rw [e0] at U0
   rw [hl]
   exact (U0.trans U1).trans U2
 ·-- something has been pushed
  have hu : u ∈ unk S f kv' t.subs := by rw [eu, List.concat_eq_append]; exact List.mem_append_right _ (.head _)
  have hu2 := unk_no hu
  have hb : b = false := by
   cases b with
   | false => rfl
   | true => exact absurd ((i.inv.1 rfl u hu2.1).resolve_right List.not_mem_nil) hu2.2
  have ne : ¬ numK S f u = numK S f t := fun e => by
   have := pd.numInj (Val.sub pd.kt ht hu2.1).1 ht (congrArg V.int e)
   exact Nat.lt_irrefl _ (this ▸ wt_sub hu2.1)
  subst hb
  have hphi : phi (fls (unk S f kv' t.subs) ((t, true) :: s)) < phi ((t, false) :: s) := phi_push
  have key := q (fls (unk S f kv' t.subs) ((t, true) :: s)) ix' kv' σ1 w (some (nV S f t)) y4 x5 hphi ⟨i.g, ?_, .fls fun B hB => ⟨fun _ c hc => (unk_mem hc).imp_right fun z => hB c (.inl z), i.inv.2.mono (fun _ z => z) fun c hc => .inr (List.mem_singleton.mp hc ▸ .head _)⟩, fls_all (List.forall_mem_cons.mpr ⟨ht, fun e he => i.val e (.tail _ he)⟩) fun c hc => (Val.sub pd.kt ht (unk_no hc).1).1, ?_, ?_⟩
  ·rw [eu, List.concat_eq_append, List.map_append, <- List.append_assoc] at U1
   have gt1 : σ1[td]? = some (.list (l ++ [nV S f t] ++ us.map (nV S f) ++ [nV S f u])) := g_D U1.sta (.head _)
   have el1 : (l ++ [nV S f t] ++ us.map (nV S f) ++ [nV S f u]).getLast? = some (nV S f u) := List.getLast?_concat
   delta lk_learn_kind_1
   refine cut_ite fun W2 hW2 => ?_
   (and_intros)
   exact hW2 _ _ key
  ·exact Nat.le_trans (Nat.add_le_add_left (Nat.le_of_lt hphi) w) i.w
  ·rcases i.bot with z | ⟨b', z⟩
   ·exact .inl z
   ·rcases List.mem_cons.mp z with z | z
    ·cases z; exact .inr ⟨true, fls_mem (.head _)⟩
    ·exact .inr ⟨b', fls_mem (.tail _ z)⟩
  ·rw [fls_map, List.map_cons, List.reverse_cons, hl]
   have U0 := i.U
   rw [e0] at U0
   exact U0.trans U1
end
structure Cx (D : Facts) (P : PLoc) (lib : String) (S : Sv) (f : Nat -> Nat) (nt : Nat) (ix : List Tm) (kv : List (V × V)) (σ : St) (m : Nat) : Prop where
 h : Sta σ (oF P lib ix kv D)
 ok : IX ix
 kn : KN S f nt ix kv
 l1 : ix.length ≤ m
 l2 : kv.length ≤ m
def RQ (D : Facts) (P : PLoc) (lib : String) (S : Sv) (f : Nat -> Nat) (nt : Nat) (ix : List Tm) (kv : List (V × V)) (σ : St) (w : Nat) (val : List Tm -> V) (ts : List Tm) (Q : Post) : Prop :=
 ∀ ix' kv' σ', Go S f nt ix kv ix' kv' w -> (∀ t ∈ ts, t ∈ ix') -> (∀ ix'', ix' <+: ix'' -> val ix'' = val ix') -> Upd (oF P lib ix kv D) (oF P lib ix' kv' D) σ σ' -> Q (val ix') σ'
theorem ne_emp {v : V} : ∀ {l : List V}, (!(l ++ [v]).isEmpty) = true
 | [] => rfl
 | _ :: _ => rfl
section
variable {D : Facts} {W : WL} {S : Sv} {L : Facts} {lib name : String} {x : Nat} {types : List (String × Nat)} {rows : List (List Row)} {f k : Nat -> Nat} {P : PLoc} {ix ix' : List Tm} {kv kv' : List (V × V)} {σ σ' : St} {t : Tm} {Q : Post} {N m w nt : Nat}
theorem Cx.next (c : Cx D P lib S f nt ix kv σ m) (g : Go S f nt ix kv ix' kv' w) (U : Upd (oF P lib ix kv D) (oF P lib ix' kv' D) σ σ') : Cx D P lib S f nt ix' kv' σ' (m + w) :=
 ⟨U.sta, g.ok, g.kn, Nat.le_trans g.ext.len (Nat.add_le_add_right c.l1 w), Nat.le_trans g.len (Nat.add_le_add_right c.l2 w)⟩
theorem Cx.refl (c : Cx D P lib S f nt ix kv σ m) : Go S f nt ix kv ix kv 0 := .refl c.ok c.kn
theorem Cx.u (c : Cx D P lib S f nt ix kv σ m) : Upd (oF P lib ix kv D) (oF P lib ix kv D) σ σ := c.h.refl
theorem Cx.le {m' : Nat} (c : Cx D P lib S f nt ix kv σ m) (h : m ≤ m') : Cx D P lib S f nt ix kv σ m' := ⟨c.h, c.ok, c.kn, Nat.le_trans c.l1 h, Nat.le_trans c.l2 h⟩
theorem pk (pd : PD D W S L lib name x types rows f k P) (c : Cx D P lib S f types.length ix kv σ m) (hm : m ≤ 80000) (ht : Val S f types.length t) (hw : t.wt ≤ 40) (q : RQ D P lib S f types.length ix kv σ 80 (fun ix => posV ix t) [t] Q) : wpF (N + 5) .Paths_kind [.loc P.p, nV S f t] Q σ := by
 have gp := pd.gp c.h
 have gk := g_known c.h
 have kk : keyOk kv (nV S f t) := key1 c.kn.k1 _
 cases e : (dget kv (nV S f t)).isSome with
 | true =>
  obtain ⟨v, hv⟩ := Option.isSome_iff_exists.mp e
  have := c.kn.kn t v ht hv
  have fin : Q (posV ix t) σ := q ix kv σ (c.refl.le (Nat.zero_le _)) (fun u hu => List.mem_singleton.mp hu ▸ this.1) (fun _ h => posV_pre h this.1) c.u
  rw [<- this.2] at fin
  refine enter2 rfl ?_
  delta body_Paths_kind
  (and_intros)
 | false =>
  refine enter2 rfl ?_
  delta body_Paths_kind
  refine cut_ite fun W0 hW0 => ?_
  (and_intros)
  refine enter2 rfl ?_
  delta body_learn_kind
  refine cut_set fun W1 hW1 => ?_
  (and_intros)
  have U0 : Upd (oF P lib ix kv D) (oF P lib ix kv ((σ.length, .list [nV S f t]) :: D)) σ (σ ++ [.list [nV S f t]]) :=
   (c.h.pushR (o := .list [nV S f t])).perm (List.Perm.cons _ (List.Perm.cons _ List.perm_append_comm))
  refine hW1 _ _ ⟨fun n ρ σ' => ∃ s ix' kv' w, (∃ x3 x4 x5, ρ = [some (.loc P.p), some (nV S f t), some (.loc σ.length), x3, x4, x5]) /\ phi s = n /\ LI D S f types.length P lib σ.length (oF P lib ix kv D) ix kv σ t s ix' kv' σ' w,
   ⟨_, [(t, false)], ix, kv, 0, ⟨none, none, none, rfl⟩, rfl, c.refl, ?_, ⟨nofun, trivial⟩, List.forall_mem_cons.mpr ⟨ht, nofun⟩, .inr ⟨false, .head _⟩, U0⟩, fun n ρ σ' hI => ex4 hI fun s ix' kv' w hI => ?_⟩
  ·show 0 + (2 * t.wt + 0) ≤ 80
   rw [Nat.zero_add]; exact Nat.mul_le_mul_left 2 hw
  ·refine ex3 hI.1 fun x3 x4 x5 hρ => ?_
   have i := hI.2.2
   rw [hρ, <- hI.2.1]
   cases s with
   | nil =>
    have gt : σ'[σ.length]? = some (.list []) := g_D i.U.sta (.head _)
    refine IfW.f (.list gt rfl) ?_
    have U : Upd (oF P lib ix kv D) (oF P lib ix' kv' D) σ σ' := i.U.sublist (.cons_cons _ (.cons_cons _ (.cons _ (List.Sublist.refl _))))
    refine ex1 (i.bot.resolve_right fun z => ex1 z fun b hb => nomatch hb) fun v hv => ?_
    have hm := i.g.kn.kn t v ht hv
    have fin : Q (posV ix' t) σ' := q ix' kv' σ' (i.g.le (Nat.le_trans (Nat.le_add_right _ _) i.w)) (fun u hu => List.mem_singleton.mp hu ▸ hm.1) (fun _ h => posV_pre h hm.1) U
    rw [<- hm.2] at fin
    have gp2 := pd.gp U.sta
    have gk2 := g_known U.sta
    have kk2 : keyOk kv' (nV S f t) := key1 i.g.kn.k1 _
    refine hW0 _ _ ?_
    (and_intros)
   | cons e s =>
    have gt : σ'[σ.length]? = some (.list ((e :: s).map fun e => nV S f e.1).reverse) := g_D i.U.sta (.head _)
    refine IfW.t (.list gt ?_) ?_
    ·rw [List.map_cons, List.reverse_cons]; exact ne_emp
    ·exact learn_turn pd i (Nat.le_trans c.l1 hm) (Nat.le_trans c.l2 hm) fun s' ix2 kv2 σ2 w2 y3 y4 y5 hlt i2 => ⟨phi s', hlt, s', ix2, kv2, w2, ⟨y3, y4, y5, rfl⟩, rfl, i2⟩
theorem pks (pd : PD D W S L lib name x types rows f k P) (c : Cx D P lib S f types.length ix kv σ m) (hm : m ≤ 70000) {ts : List Tm} (hl : ts.length ≤ 10) (ht : ∀ t ∈ ts, Val S f types.length t /\ t.wt ≤ 40) (q : RQ D P lib S f types.length ix kv σ (ts.length * 80) (fun ix => .tup (ts.map (posV ix))) ts Q) : wpF (N + 6) .Paths_kinds [.loc P.p, .tup (ts.map (nV S f))] Q σ := by
 have l1 : Nat.ble (ts.map (nV S f)).length lim = true := by rw [List.length_map]; exact lim_of (Nat.le_trans hl (by decide))
 have loop : ∀ (l : List Tm) (acc : List V) {ix : List Tm} {kv : List (V × V)} {σ : St} {m : Nat} {Q' : List V -> St -> Prop}, Cx D P lib S f types.length ix kv σ m -> m + l.length * 80 ≤ 80000 -> (∀ t ∈ l, Val S f types.length t /\ t.wt ≤ 40) ->
   (∀ ix' kv' σ', Go S f types.length ix kv ix' kv' (l.length * 80) -> (∀ t ∈ l, t ∈ ix') -> Upd (oF P lib ix kv D) (oF P lib ix' kv' D) σ σ' -> Q' (acc ++ l.map (posV ix')) σ') ->
   compW (fun _ => True) (tgt 0) (fun _ Q σ => Q (.bool true) σ) (fun κ' Q' σ' => wpE (wpF (N + 5)) ce_Paths_kinds_0 κ' (kOne Q') [some (.loc P.p), some (.tup (ts.map (nV S f)))] σ' []) (l.map (nV S f)) acc Q' σ := by
  intro l
  induction l with
  | nil => exact fun acc ix kv σ m Q' c _ _ q => ⟨trivial, by have := q ix kv σ (c.refl.le (Nat.zero_le _)) nofun c.u; rwa [List.map_nil, List.append_nil] at this⟩
  | cons t l ih =>
   intro acc ix kv σ m Q' c hm ht q
   have e : (t :: l).length * 80 = 80 + l.length * 80 := (Nat.succ_mul _ _).trans (Nat.add_comm _ _)
   rw [e] at hm q
   have gp := pd.gp c.h
   refine ⟨trivial, [nV S f t], rfl, .tt ?_⟩
   delta ce_Paths_kinds_0
   (and_intros)
   refine pk pd c (Nat.le_trans (Nat.le_add_right _ _) hm) (ht t (.head _)).1 (ht t (.head _)).2 fun ix1 kv1 σ1 g1 hm1 _ U1 => ?_
   refine ih _ (c.next g1 U1) (Nat.le_trans (Nat.le_of_eq (Nat.add_assoc m 80 _)) hm) (fun u hu => ht u (.tail _ hu)) fun ix2 kv2 σ2 g2 hm2 U2 => ?_
   have key := q ix2 kv2 σ2 (g1.trans g2) (List.forall_mem_cons.mpr ⟨g2.ext.mem (hm1 t (.head _)), hm2⟩) (U1.trans U2)
   rwa [List.map_cons, g2.ext.pos (hm1 t (.head _)), <- List.singleton_append, <- List.append_assoc] at key
 refine enter2 rfl ?_
 delta body_Paths_kinds
 (and_intros)
 refine loop ts [] c (Nat.le_trans (Nat.add_le_add hm (Nat.mul_le_mul_right 80 hl)) (by decide)) ht fun ix' kv' σ' g hm U => ?_
 (and_intros)
 exact q ix' kv' _ g hm (fun _ h => congrArg V.tup (List.map_congr_left fun t ht => posV_pre h (hm t ht))) (U.trans (U.sta.grow _))
end
noncomputable def mnV (ix : List Tm) (c n : Nat) : V := if c = 13 then .tup [.int (n + 1 : Nat)] else .tup [.str "g", .int n, .int 0, posV ix (.p 0), .tup []]
noncomputable def mpV (ix : List Tm) (r : Row) : V := .tup [posV ix r.owner, mnV ix r.c r.margs.length, .tup (r.margs.map (posV ix))]
section
variable {D : Facts} {W : WL} {S : Sv} {L : Facts} {lib name : String} {x : Nat} {types : List (String × Nat)} {rows : List (List Row)} {f k : Nat -> Nat} {P : PLoc} {ix : List Tm} {kv : List (V × V)} {σ : St} {Q : Post} {N m : Nat}
theorem home0 {v : V} (q : Q (.tup []) σ) : wpF (N + 1) .type_path [v, .int 0] Q σ := by
 refine enter2 rfl ?_
 delta body_type_path
 (and_intros)
 exact q
theorem member0 {v : V} (q : Q (.tup []) σ) : wpF (N + 1) .member_name [v, .int 0] Q σ := by
 refine enter2 rfl ?_
 delta body_member_name
 (and_intros)
 exact q
theorem pks0 {n : Nat} (h : σ[n]? = some (.list [])) (q : Q (.tup []) (σ ++ [.list []])) : wpF (N + 1) .Paths_kinds [.loc P.p, .loc n] Q σ := by
 have l : live σ [] (some n) := h
 refine enter2 rfl ?_
 delta body_Paths_kinds
 (and_intros)
theorem bound_rows_spec {n b : Nat} (pd : PD D W S L lib name x types rows f k P) (c : Cx D P lib S f types.length ix kv σ m) (hm : m ≤ 60000) (hb : b ≤ 2) (mn : (n, O.list (bnd b)) ∈ D) (q : ∀ σ', Upd (oF P lib ix kv D) (oF P lib ix kv D) σ σ' -> Q (.tup (bnd b)) σ') : wpF (N + 7) .bound_rows [.loc P.p, .loc n] Q σ := by
 have loop : ∀ (b : Nat) (acc : List V) {σ : St} {l : List V} {Q' : List V -> St -> Prop}, (n, O.list l) ∈ D -> Sta σ (oF P lib ix kv D) -> (∀ σ', Upd (oF P lib ix kv D) (oF P lib ix kv D) σ σ' -> Q' (acc ++ bnd b) σ') ->
   compW (fun σ' => live σ' l (some n)) (tgt 0) (fun _ Q σ => Q (.bool true) σ) (fun κ' Q' σ' => wpE (wpF (N + 6)) ce_bound_rows_0 κ' (kOne Q') [some (.loc P.p), some (.loc n)] σ' []) (bnd b) acc Q' σ := by
  intro b
  induction b with
  | zero => exact fun acc σ l Q' mn h q => ⟨g_D h mn, by have := q σ h.refl; rwa [show bnd 0 = [] from rfl, List.append_nil] at this⟩
  | succ b ih =>
   intro acc σ l Q' mn h q
   have gp := pd.gp h
   refine ⟨g_D h mn, [.tup [.int 0, .tup []]], rfl, .tt ?_⟩
   delta ce_bound_rows_0
   (and_intros)
   refine wpF_le (n := 2) (Nat.le_add_left 2 (N + 4)) (kinds_known (N := 0) (ts := []) pd h c.kn (Nat.zero_le _) nofun fun o => ?_)
   have U := h.grow [o]
   refine ih (acc ++ [.tup [.int 0, .tup []]]) mn U.sta fun σ' U' => ?_
   rw [List.append_assoc]
   exact q σ' (U.trans U')
 have gn : σ[n]? = some (.list (bnd b)) := g_D c.h mn
 have l1 : Nat.ble (bnd b).length lim = true := by unfold bnd; rw [List.length_replicate]; exact lim_of (Nat.le_trans hb (by decide))
 refine enter2 rfl ?_
 delta body_bound_rows
 (and_intros)
 refine loop b [] mn c.h fun σ' U => ?_
 (and_intros)
 exact q _ (U.trans (U.sta.grow _))
theorem PD.inL (pd : PD D W S L lib name x types rows f k P) {p : Nat × O} (h : p ∈ L) : p ∈ D := pd.sub p (List.mem_append_right _ (List.mem_append_right _ h))
theorem Val.p (pd : PD D W S L lib name x types rows f k P) {n : Nat} (h : n < 16) : Val S f types.length (.p n) := .inr ⟨trivial, (pd.kt.p h).1⟩
theorem num_p (pd : PD D W S L lib name x types rows f k P) {n : Nat} (h : n < 16) : nV S f (.p n) = .int n := (numK_of (t := .p n) fun e => nomatch e).trans (congrArg (fun n : Nat => V.int n) (pd.kt.p h).2)
theorem Std.me {tid cnt asm k : Nat} {nm : String} {b : V} (s : Std S L tid nm cnt asm k b) {n : Nat} (hn : n = 1 ∨ n = 2) : ∃ y g own b, S.mel[k + (n - 1)]? = some (.loc y) /\ ∀ p ∈ meF ⟨y, k + (n - 1), own, n, g, 0⟩ b, p ∈ L :=
 ex5 s.ex fun y y1 g1 y2 g2 a => by
  rcases hn with rfl | rfl
  ·exact ⟨y1, g1, tid, b, a.1.2.1, a.2.2.1⟩
  ·exact ⟨y2, g2, tid, .none, a.1.2.2, a.2.2.2⟩
theorem PD.me (pd : PD D W S L lib name x types rows f k P) {c : Nat} (hc : vc types.length c) (h13 : c ≠ 13) {n : Nat} (hn : n = 1 ∨ n = 2) : ∃ y g own b, S.mel[k c + (n - 1)]? = some (.loc y) /\ ∀ p ∈ meF ⟨y, k c + (n - 1), own, n, g, 0⟩ b, p ∈ L := by
 rcases hc with hc | ⟨hc, hc'⟩
 ·exact ex2 (pd.laid.std c _ _ (List.getElem?_eq_getElem hc)) fun z rs a => a.2.1.me hn
 ·have hc3 : c = 10 ∨ c = 11 ∨ c = 12 := by
   obtain ⟨j, rfl⟩ := Nat.le.dest hc
   rcases four (Nat.le_of_add_le_add_left (a := 10) hc') with rfl | rfl | rfl | rfl
   ·exact .inl rfl
   ·exact .inr (.inl rfl)
   ·exact .inr (.inr rfl)
   ·exact absurd rfl h13
  exact ex1 (pd.laid.wld c hc3) fun asm a => a.1.me hn
theorem method_name_spec (pd : PD D W S L lib name x types rows f k P) (c : Cx D P lib S f types.length ix kv σ m) (hm : m ≤ 60000) {cc : Nat} (hc : vc types.length cc) {n : Nat} (hn : n = 1 ∨ n = 2) (q : RQ D P lib S f types.length ix kv σ 80 (fun ix => mnV ix cc n) [] Q) : wpF (N + 7) .method_name [.loc P.p, .int (k cc + (n - 1) : Nat)] Q σ := by
 have gp := pd.gp c.h
 have gst := pd.gst c.h
 have gme := pd.gme c.h
 by_cases h13 : cc = 13
 ·subst h13
  have hmel : S.mel[k 13 + (n - 1)]? = some .none := by
   rw [pd.laid.t13.2.2.1]
   rcases hn with rfl | rfl
   ·exact pd.laid.t13.2.2.2.1
   ·exact pd.laid.t13.2.2.2.2
  have hpos : 0 < k 13 + (n - 1) := by rw [pd.laid.t13.2.2.1]; exact Nat.add_pos_left (by decide) _
  have e0 : ¬ ((k 13 + (n - 1) : Nat) : Int) = 0 := fun e => absurd (Int.ofNat.inj e) (Nat.ne_of_gt hpos)
  have fin : Q (.tup [.int (k 13 + (n - 1) : Nat)]) σ := by
   have := q ix kv σ (c.refl.le (Nat.zero_le _)) nofun (fun _ _ => rfl) c.u
   rw [pd.laid.t13.2.2.1]
   rcases hn with rfl | rfl <;> exact this
  refine enter2 rfl ?_
  delta body_method_name
  (and_intros)
  refine wpF_le (n := 1) (Nat.le_add_left 1 _) (standing_spec (N := 0) gme hmel hpos ?_)
  (and_intros)
  exact fin
 ·refine ex4 (pd.me hc h13 hn) fun y g own b a => ?_
  have hpos : 0 < k cc + (n - 1) := Nat.pos_of_ne_zero fun z => by
   have := a.1
   rw [z, pd.laid.t0.2] at this
   cases this
  have e0 : ¬ ((k cc + (n - 1) : Nat) : Int) = 0 := fun e => absurd (Int.ofNat.inj e) (Nat.ne_of_gt hpos)
  have gy := pd.gL c.h (a.2 _ (.head _))
  have ev : ∀ ix, mnV ix cc n = .tup [.str "g", .int n, .int 0, posV ix (.p 0), .tup []] := fun ix => if_neg h13
  refine enter2 rfl ?_
  delta body_method_name
  (and_intros)
  refine wpF_le (n := 1) (Nat.le_add_left 1 _) (standing_spec (N := 0) gme a.1 hpos ?_)
  (and_intros)
  rw [show V.int ((0 : Nat) : Int) = nV S f (.p 0) from (num_p pd (by decide)).symm]
  refine wpF_le (n := 5) (Nat.le_add_left 5 _) (pk (N := 0) pd c (Nat.le_trans hm (by decide)) (Val.p pd (by decide)) (show 1 ≤ 40 by decide) fun ix1 kv1 σ1 g1 hm1 hv1 U1 => ?_)
  have gp1 := pd.gp U1.sta
  have gy1 := pd.gL U1.sta (a.2 _ (.head _))
  (and_intros)
  refine wpF_le (n := 2) (Nat.le_add_left 2 _) (kinds_known (N := 0) (ts := []) pd U1.sta g1.kn (Nat.zero_le _) nofun fun o => ?_)
  have fin : Q (mnV ix1 cc n) _ := q ix1 kv1 _ g1 nofun (fun ix' h => (ev ix').trans ((congrArg (fun v => V.tup [.str "g", .int n, .int 0, v, .tup []]) (hv1 ix' h)).trans (ev ix1).symm)) (U1.trans (U1.sta.grow [o]))
  rw [ev] at fin
  (and_intros)
  exact fin
end
noncomputable def rwV (ix : List Tm) (r : Row) : V := .tup [.int (opc r.op), mpV ix r]
noncomputable def itV (ix : List Tm) : Option Row -> V
 | some r => rwV ix r
 | none => .tup [.int 42, .int 0]
noncomputable def itE (ts : List Tm) (f k : Nat -> Nat) : Option Row -> V
 | some r => rowB ts f k r
 | none => .tup [.int 42, .int 0]
noncomputable def itT : Option Row -> List Tm
 | some r => r.owner :: r.margs
 | none => []
noncomputable def items (rs : List Row) : List (Option Row) := rs.map some ++ [none]
noncomputable def bdV (ix : List Tm) (rs : List Row) : V := .tup [.tup [], .int 8, .tup ((items rs).map (itV ix)), .tup []]
noncomputable def rsT (rs : List Row) : List Tm := rs.flatMap fun r => r.owner :: r.margs
noncomputable def mtV (ix : List Tm) (n : Nat) (b : V) : V := .tup [.tup [.str "g", .int 6, .int 0, .int n, .tup (gn n), .tup (bnd n), .int 0], .tup [posV ix (.p 0), .tup [], .tup [], .tup []], b]
section
variable {D : Facts} {W : WL} {S : Sv} {L : Facts} {lib name : String} {x : Nat} {types : List (String × Nat)} {rows : List (List Row)} {f k : Nat -> Nat} {P : PLoc} {ix : List Tm} {kv : List (V × V)} {σ : St} {Q : Post} {N m : Nat} {r : Row}
theorem ok_val {n : Nat} (hn : n ≤ 3) {t : Tm} (h : t.ok types.length n) (hin : t.sub f ∈ S.ts) : (Val S f types.length t /\ t.wt ≤ 40) /\ nV S f t = posV S.ts (t.sub f) := by
 refine ⟨⟨.inr ⟨ok_okc t h, hin⟩, ?_⟩, numK_of (T99_no (ok_okc t h))⟩
 have h1 := (sub_bd (f := id) t h).2
 have h2 : (t.sub id).wt = t.wt := congrArg Tm.wt (by
  clear h1 h hin
  induction t with
  | a t ih => exact congrArg Tm.a ih
  | c1 c t ih => exact congrArg (Tm.c1 c) ih
  | c2 c x y h1 h2 => exact cA2 (Tm.c2 c) h1 h2
  | _ => rfl)
 rw [h2] at h1
 exact Nat.le_trans h1 ((by decide : ∀ n ≤ 3, WB n ≤ 40) n hn)
theorem t3 {a a' b b' c c' : V} (h1 : a = a') (h2 : b = b') (h3 : c = c') : V.tup [a, b, c] = .tup [a', b', c'] := h1 ▸ h2 ▸ h3 ▸ rfl
theorem method_path_spec (pd : PD D W S L lib name x types rows f k P) (c : Cx D P lib S f types.length ix kv σ m) (hm : m ≤ 50000) (hr : Rwf types.length r) (hin : Rin S.ts f r) (q : RQ D P lib S f types.length ix kv σ 320 (fun ix => mpV ix r) (r.owner :: r.margs) Q) :
  wpF (N + 8) .method_path [.loc P.p, .tup [posV S.ts (r.owner.sub f), .int (k r.c + (r.margs.length - 1) : Nat), .tup (r.margs.map fun t => posV S.ts (t.sub f))]] Q σ := by
 have vo := ok_val (S := S) (f := f) (types := types) (t := r.owner) (Nat.le_refl 3) (ok_mkC hr.c hr.ao) hin.1
 have vm := fun t ht => ok_val (S := S) (f := f) (types := types) (by decide) (hr.mo t ht) (hin.2 t ht)
 have gp := pd.gp c.h
 have em : (r.margs.map fun t => posV S.ts (t.sub f)) = r.margs.map (nV S f) := List.map_congr_left fun t ht => (vm t ht).2.symm
 have hml := ml_le hr
 rw [em, <- vo.2]
 refine enter2 rfl ?_
 delta body_method_path
 refine cut_setT fun W0 hW0 => ?_
 (and_intros)
 refine hW0 _ _ ?_
 (and_intros)
 refine wpF_le (n := 5) (Nat.le_add_left 5 _) (pk (N := 0) pd c (Nat.le_trans hm (by decide)) vo.1.1 vo.1.2 fun ix1 kv1 σ1 g1 hm1 hv1 U1 => ?_)
 have c1 := c.next g1 U1
 (and_intros)
 refine method_name_spec (N := N) (n := r.margs.length) pd c1 (Nat.le_trans (Nat.add_le_add_right hm 80) (by decide)) hr.c hr.ml fun ix2 kv2 σ2 g2 _ hv2 U2 => ?_
 have c2 := c1.next g2 U2
 have gp2 := pd.gp U2.sta
 (and_intros)
 refine wpF_le (n := 6) (Nat.le_add_left 6 _) (pks (N := 0) (ts := r.margs) pd c2 (Nat.le_trans (Nat.add_le_add_right (Nat.add_le_add_right hm 80) 80) (by decide)) (Nat.le_trans hml (by decide)) (fun t ht => (vm t ht).1) fun ix3 kv3 σ3 g3 hm3 hv3 U3 => ?_)
 have p23 := g3.ext.pre
 have p13 := g2.ext.pre.trans p23
 have ev : ∀ ix', ix3 <+: ix' -> mpV ix' r = .tup [posV ix1 r.owner, mnV ix2 r.c r.margs.length, .tup (r.margs.map (posV ix3))] := fun ix' h => t3 (hv1 ix' (p13.trans h)) (hv2 ix' (p23.trans h)) (hv3 ix' h)
 have fin : Q (mpV ix3 r) σ3 := q ix3 kv3 σ3 (((g1.trans g2).trans g3).le (Nat.le_trans (Nat.add_le_add_left (Nat.mul_le_mul_right 80 hml) 160) (by decide))) (List.forall_mem_cons.mpr ⟨p13.subset (hm1 _ (.head _)), hm3⟩) (fun ix' h => (ev ix' h).trans (ev ix3 List.prefix_rfl).symm) ((U1.trans U2).trans U3)
 rw [ev ix3 List.prefix_rfl] at fin
 (and_intros)
 exact fin
theorem op9 {op : Nat} (h : op < 3) : (tget Tb.OP_SORT.rows (opc op)).getD (-1) = 9 := by
 rcases lt3' h with rfl | rfl | rfl <;> decide
theorem items_enc {ts : List Tm} {rs : List Row} : rs.map (rowB ts f k) ++ [.tup [.int 42, .int 0]] = (items rs).map (itE ts f k) := by
 unfold items
 rw [List.map_append, List.map_map]
 rfl
theorem code_row (pd : PD D W S L lib name x types rows f k P) {ρ : Fr} {lv : St -> Prop} : ∀ (l : List (Option Row)) (acc : List V) {ix : List Tm} {kv : List (V × V)} {σ : St} {m : Nat} {Q' : List V -> St -> Prop}, ρ[0]? = some (some (.loc P.p)) -> (∀ {ix kv σ}, Sta σ (oF P lib ix kv D) -> lv σ) -> Cx D P lib S f types.length ix kv σ m -> m + l.length * 320 ≤ 50000 -> (∀ r, some r ∈ l -> Rwf types.length r /\ Rin S.ts f r) ->
  (∀ ix' kv' σ' vs, Go S f types.length ix kv ix' kv' (l.length * 320) -> (∀ i ∈ l, ∀ t ∈ itT i, t ∈ ix') -> (∀ ix'', ix' <+: ix'' -> l.map (itV ix'') = vs) -> Upd (oF P lib ix kv D) (oF P lib ix' kv' D) σ σ' -> Q' (acc ++ vs) σ') ->
  compW lv (tgt 0) (fun _ Q σ => Q (.bool true) σ) (fun κ' Q' σ' => wpE (wpF (N + 9)) ce_body_told_0 κ' (kOne Q') (some (.loc P.p) :: ρ.tail) σ' []) (l.map (itE S.ts f k)) acc Q' σ := by
 intro l
 induction l with
 | nil => exact fun acc ix kv σ m Q' hρ hl c _ _ q => ⟨hl c.h, by have := q ix kv σ [] (c.refl.le (Nat.zero_le _)) nofun (fun _ _ => rfl) c.u; rwa [List.append_nil] at this⟩
 | cons i l ih =>
  intro acc ix kv σ m Q' hρ hl c hm hw q
  have e : (i :: l).length * 320 = 320 + l.length * 320 := (Nat.succ_mul _ _).trans (Nat.add_comm _ _)
  rw [e] at hm q
  have next : ∀ ix1 kv1 σ1 v, Go S f types.length ix kv ix1 kv1 320 -> (∀ t ∈ itT i, t ∈ ix1) -> (∀ ix'', ix1 <+: ix'' -> itV ix'' i = v) -> Upd (oF P lib ix kv D) (oF P lib ix1 kv1 D) σ σ1 ->
    compW lv (tgt 0) (fun _ Q σ => Q (.bool true) σ) (fun κ' Q' σ' => wpE (wpF (N + 9)) ce_body_told_0 κ' (kOne Q') (some (.loc P.p) :: ρ.tail) σ' []) (l.map (itE S.ts f k)) (acc ++ [v]) Q' σ1 := fun ix1 kv1 σ1 v g1 hm1 hv1 U1 =>
   ih _ hρ hl (c.next g1 U1) (Nat.le_trans (Nat.le_of_eq (Nat.add_assoc m 320 _)) hm) (fun r hr => hw r (.tail _ hr)) fun ix2 kv2 σ2 vs g2 hm2 hv2 U2 => by
    rw [List.append_assoc]
    exact q ix2 kv2 σ2 (v :: vs) (g1.trans g2) (List.forall_mem_cons.mpr ⟨fun t ht => g2.ext.mem (hm1 t ht), hm2⟩) (fun ix'' h => cA2 List.cons (hv1 ix'' (g2.ext.pre.trans h)) (hv2 ix'' h)) (U1.trans U2)
  refine ⟨hl c.h, [itE S.ts f k i], rfl, .tt ?_⟩
  cases i with
  | none =>
   have key := next ix kv σ (.tup [.int 42, .int 0]) (c.refl.le (Nat.zero_le _)) nofun (fun _ _ => rfl) c.u
   delta ce_body_told_0
   (and_intros)
   refine enter1 rfl ?_
   delta body_op_sort
   (and_intros)
   refine enter3 rfl ?_
   delta body_operand_path
   (and_intros)
   exact key
  | some r =>
   have hr := hw r (.head _)
   have e9 := op9 hr.1.op
   delta ce_body_told_0
   (and_intros)
   refine enter1 rfl ?_
   delta body_op_sort
   (and_intros)
   refine enter3 rfl ?_
   delta body_operand_path
   (and_intros)
   refine method_path_spec pd c (Nat.le_trans (Nat.le_add_right _ _) hm) hr.1 hr.2 fun ix1 kv1 σ1 g1 hm1 hv1 U1 => ?_
   have key := next ix1 kv1 σ1 _ g1 hm1 (fun ix'' h => congrArg (fun v => V.tup [.int (opc r.op), v]) (hv1 ix'' h)) U1
   (and_intros)
   exact key
theorem body_told_spec {z : Nat} {rs : List Row} (pd : PD D W S L lib name x types rows f k P) (c : Cx D P lib S f types.length ix kv σ m) (hm : m ≤ 40000) (hrl : rs.length ≤ 2) (hr : ∀ r ∈ rs, Rwf types.length r /\ Rin S.ts f r) (hD : ∀ p ∈ bdF z (rs.map (rowB S.ts f k) ++ [.tup [.int 42, .int 0]]), p ∈ D) (q : RQ D P lib S f types.length ix kv σ 960 (fun ix => bdV ix rs) (rsT rs) Q) :
  wpF (N + 10) .body_told [.loc P.p, .loc (z + 2)] Q σ := by
 rw [items_enc] at hD
 have il : (items rs).length ≤ 3 := by unfold items; rw [List.length_append, List.length_map]; exact Nat.succ_le_succ hrl
 have gb : ∀ {ix kv σ}, Sta σ (oF P lib ix kv D) -> σ[z + 2]? = some (bdO z) := fun h => g_D h (hD _ (.tail _ (.tail _ (.head _))))
 have gc : ∀ {ix kv σ}, Sta σ (oF P lib ix kv D) -> σ[z]? = some (.list ((items rs).map (itE S.ts f k))) := fun h => g_D h (hD _ (.head _))
 have ge : ∀ {ix kv σ}, Sta σ (oF P lib ix kv D) -> σ[z + 1]? = some (.list []) := fun h => g_D h (hD _ (.tail _ (.head _)))
 have gb0 := gb c.h
 have gc0 := gc c.h
 have l1 : Nat.ble ((items rs).map (itE S.ts f k)).length lim = true := by rw [List.length_map]; exact lim_of (Nat.le_trans il (by decide))
 have h960 := Nat.mul_le_mul_right 320 il
 refine enter2 rfl ?_
 delta body_body_told
 refine cut_set fun W0 hW0 => ?_
 (and_intros)
 refine hW0 _ _ (cut_set fun W1 hW1 => ?_)
 (and_intros)
 refine code_row (ρ := [some (.loc P.p), some (.loc (z + 2)), some (.int 8), none, none]) pd (items rs) [] rfl (fun h => gc h) c (Nat.le_trans (Nat.add_le_add hm h960) (by decide)) (fun r h => hr r ?_) fun ix1 kv1 σ1 vs g1 hm1 hv1 U1 => ?_
 ·rcases List.mem_append.mp h with h | h
  ·obtain ⟨u, hu, e⟩ := List.mem_map.mp h
   cases e; exact hu
  ·cases List.mem_singleton.mp h
 ·have U2 := U1.sta.grow [.list ([] ++ vs)]
  have gb2 := gb U2.sta
  have ge2 := ge U2.sta
  have le2 : live (σ1 ++ [O.list ([] ++ vs)]) [] (some (z + 1)) := ge2
  have U3 := U2.sta.grow [.list []]
  have gb3 := gb U3.sta
  have gp3 := pd.gp U3.sta
  (and_intros)
  refine hW1 _ _ ?_
  (and_intros)
  refine wpF_le (n := 2) (Nat.le_add_left 2 _) (kinds_known (N := 0) (ts := []) pd U3.sta g1.kn (Nat.zero_le _) nofun fun o => ?_)
  have ev : ∀ ix', ix1 <+: ix' -> bdV ix' rs = .tup [.tup [], .int 8, .tup vs, .tup []] := fun ix' h => by unfold bdV; rw [hv1 ix' h]
  have fin : Q (bdV ix1 rs) _ := q ix1 kv1 _ (g1.le h960) (fun t ht => by
   obtain ⟨r, hr1, hr2⟩ := List.mem_flatMap.mp ht
   exact hm1 (some r) (List.mem_append_left _ (List.mem_map_of_mem hr1)) t hr2) (fun ix' h => (ev ix' h).trans (ev ix1 List.prefix_rfl).symm) (((U1.trans U2).trans U3).trans (U3.sta.grow [o]))
  rw [ev ix1 List.prefix_rfl] at fin
  (and_intros)
  exact fin
end
noncomputable def ttV (ix : List Tm) (nm : String) (cnt : Nat) (rs : List Row) : V := .tup [.tup [.str nm, .int 1, .int 0, posV ix (.p 12), .tup [], posV ix (.T 99)], .tup [.tup (prm cnt), .tup (zer cnt), .tup (bnd cnt), .tup []], .tup [], .tup [mtV ix 1 (bdV ix rs), mtV ix 2 (.tup [])], .tup [], .tup [], .tup [], .tup [.tup [], .tup []]]
section
variable {D : Facts} {W : WL} {S : Sv} {L : Facts} {lib name : String} {x : Nat} {types : List (String × Nat)} {rows : List (List Row)} {f k : Nat -> Nat} {P : PLoc} {ix : List Tm} {kv : List (V × V)} {σ : St} {Q : Post} {N m : Nat}
theorem Cx.same {σ' : St} {nt : Nat} (c : Cx D P lib S f nt ix kv σ m) (U : Upd (oF P lib ix kv D) (oF P lib ix kv D) σ σ') : Cx D P lib S f nt ix kv σ' m := ⟨U.sta, c.ok, c.kn, c.l1, c.l2⟩
theorem method_told_spec (pd : PD D W S L lib name x types rows f k P) (c : Cx D P lib S f types.length ix kv σ m) (hm : m ≤ 30000) {r0 : MeR} {b : V} (hn : r0.ngen ≤ 2) (hret : r0.ret = 0) (hme : S.mel[r0.mid]? = some (.loc r0.y)) (hF : ∀ p ∈ meF r0 b, p ∈ L) {bT : List Tm} {bv : List Tm -> V}
  (hb : (b = .none /\ bT = [] /\ bv = fun _ => .tup []) ∨ ∃ l, b = .loc l /\ ∀ {Q : Post} {ix : List Tm} {kv : List (V × V)} {σ : St} {m : Nat}, Cx D P lib S f types.length ix kv σ m -> m ≤ 40000 -> RQ D P lib S f types.length ix kv σ 960 bv bT Q -> wpF (N + 10) .body_told [.loc P.p, .loc l] Q σ)
  (q : RQ D P lib S f types.length ix kv σ 1040 (fun ix => mtV ix r0.ngen (bv ix)) bT Q) : wpF (N + 11) .method_told [.loc P.p, .int r0.mid] Q σ := by
 have gm : ∀ {ix kv σ}, Sta σ (oF P lib ix kv D) -> σ[r0.y]? = some (meI r0 b) := fun h => pd.gL h (hF _ (.head _))
 have gp := pd.gp c.h
 have gst := pd.gst c.h
 have gme := pd.gme c.h
 have gm0 := gm c.h
 have gg : σ[r0.g]? = some (.list (gn r0.ngen)) := pd.gL c.h (hF _ (.tail _ (.head _)))
 refine enter2 rfl ?_
 delta body_method_told
 refine cut_set fun W0 hW0 => ?_
 (and_intros)
 refine hW0 _ _ (cut_set fun W1 hW1 => ?_)
 (and_intros)
 refine bound_rows_spec (N := N + 3) (b := r0.ngen) pd c (Nat.le_trans hm (by decide)) hn (pd.inL (hF _ (.tail _ (.tail _ (.head _))))) fun σ1 U1 => ?_
 have c1 := c.same U1
 have gm1 := gm U1.sta
 have gp1 := pd.gp U1.sta
 (and_intros)
 refine hW1 _ _ (cut_set fun W2 hW2 => ?_)
 (and_intros)
 rw [hret, show V.int ((0 : Nat) : Int) = nV S f (.p 0) from (num_p pd (by decide)).symm]
 refine pk (N := N + 5) pd c1 (Nat.le_trans hm (by decide)) (Val.p pd (by decide)) (show 1 ≤ 40 by decide) fun ix2 kv2 σ2 g2 hm2 hv2 U2 => ?_
 have c2 := c1.next g2 U2
 have gm2 := gm U2.sta
 have gp2 := pd.gp U2.sta
 (and_intros)
 refine wpF_le (n := 2) (Nat.le_add_left 2 _) (kinds_known (N := 0) (ts := []) pd U2.sta g2.kn (Nat.zero_le _) nofun fun o => ?_)
 have U3 := U2.sta.grow [o]
 have gm3 := gm U3.sta
 have gp3 := pd.gp U3.sta
 have U := (U1.trans U2).trans U3
 have ev : ∀ ix', ix2 <+: ix' -> ∀ b, mtV ix' r0.ngen b = .tup [.tup [.str "g", .int 6, .int 0, .int r0.ngen, .tup (gn r0.ngen), .tup (bnd r0.ngen), .int 0], .tup [posV ix2 (.p 0), .tup [], .tup [], .tup []], b] := fun ix' h b => congrArg (fun v => V.tup [_, .tup [v, .tup [], .tup [], .tup []], b]) (hv2 ix' h)
 (and_intros)
 refine hW2 _ _ ?_
 rcases hb with ⟨rfl, rfl, rfl⟩ | ⟨l, rfl, hbt⟩
 ·have fin : Q (mtV ix2 r0.ngen (.tup [])) _ := q ix2 kv2 _ (g2.le (by decide)) nofun (fun ix' h => (ev ix' h _).trans (ev ix2 List.prefix_rfl _).symm) U
  rw [ev ix2 List.prefix_rfl] at fin
  (and_intros)
  exact fin
 ·(and_intros)
  refine hbt (c2.same U3) (Nat.le_trans (Nat.add_le_add_right hm 80) (by decide)) fun ix4 kv4 σ4 g4 hm4 hv4 U4 => ?_
  have ev4 : ∀ ix', ix4 <+: ix' -> mtV ix' r0.ngen (bv ix') = .tup [.tup [.str "g", .int 6, .int 0, .int r0.ngen, .tup (gn r0.ngen), .tup (bnd r0.ngen), .int 0], .tup [posV ix2 (.p 0), .tup [], .tup [], .tup []], bv ix4] := fun ix' h => by
   rw [hv4 ix' h]; exact ev ix' (g4.ext.pre.trans h) _
  have fin : Q (mtV ix4 r0.ngen (bv ix4)) σ4 := q ix4 kv4 σ4 (g2.trans g4) hm4 (fun ix' h => (ev4 ix' h).trans (ev4 ix4 List.prefix_rfl).symm) (U.trans U4)
  rw [ev4 ix4 List.prefix_rfl] at fin
  (and_intros)
  exact fin
end
noncomputable def ttT (rs : List Row) : List Tm := .p 12 :: .T 99 :: rsT rs
section
variable {D : Facts} {W : WL} {S : Sv} {L : Facts} {lib name : String} {x : Nat} {types : List (String × Nat)} {rows : List (List Row)} {f k : Nat -> Nat} {P : PLoc} {ix : List Tm} {kv : List (V × V)} {σ : St} {Q : Post} {N m : Nat}
theorem type_told_spec (pd : PD D W S L lib name x types rows f k P) (c : Cx D P lib S f types.length ix kv σ m) (hm : m ≤ 28000) {cc : Nat} {nm : String} {cnt : Nat} {rs : List Row} (hty : types[cc]? = some (nm, cnt)) (hrs : rows[cc]? = some rs)
  (q : RQ D P lib S f types.length ix kv σ 2400 (fun ix => ttV ix nm cnt rs) (ttT rs) Q) : wpF (N + 12) .type_told [.loc P.p, .int (f cc)] Q σ := by
 refine ex2 (pd.laid.std cc nm cnt hty) fun z rs' hstd => ?_
 obtain ⟨hrs', hstd, hbd, hin⟩ := hstd
 rw [hrs] at hrs'
 cases hrs'
 have hcn := hstd.cn
 refine ex5 hstd.ex fun y y1 g1 y2 g2 a => ?_
 obtain ⟨⟨h1, h2, h3⟩, h4, h5, h6⟩ := a
 have hrw := pd.rwf rs (List.mem_of_getElem? hrs)
 have gt : ∀ (i : Nat) {n : Nat} {o : O}, (tyF (f cc) ⟨y, nm, cnt, x⟩ [k cc, k cc + 1])[i]? = some (n, o) -> ∀ {ix kv σ}, Sta σ (oF P lib ix kv D) -> σ[n]? = some o := fun i n o e ix kv σ h => pd.gL h (h4 _ (List.mem_of_getElem? e))
 have gy : ∀ {ix kv σ}, Sta σ (oF P lib ix kv D) -> σ[y]? = some (.inst .TypeDef (tyFs y (f cc) nm x)) := gt 0 rfl
 have gl1 : ∀ {ix kv σ}, Sta σ (oF P lib ix kv D) -> σ[y + 1]? = some (.list []) := gt 1 rfl
 have gl5 : ∀ {ix kv σ}, Sta σ (oF P lib ix kv D) -> live σ [] (some (y + 5)) := gt 5 rfl
 have gl6 : ∀ {ix kv σ}, Sta σ (oF P lib ix kv D) -> live σ [.int (k cc), .int (k cc + 1 : Nat)] (some (y + 6)) := gt 6 rfl
 have gl7 : ∀ {ix kv σ}, Sta σ (oF P lib ix kv D) -> live σ [] (some (y + 7)) := gt 7 rfl
 have gl8 : ∀ {ix kv σ}, Sta σ (oF P lib ix kv D) -> live σ [] (some (y + 8)) := gt 8 rfl
 have gl9 : ∀ {ix kv σ}, Sta σ (oF P lib ix kv D) -> live σ [] (some (y + 9)) := gt 9 rfl
 have gy0 := gy c.h
 have gp := pd.gp c.h
 have gst := pd.gst c.h
 have gty := pd.gty c.h
 have ea := tyl_at h1
 refine enter2 rfl ?_
 delta body_type_told
 refine cut_set fun W0 hW0 => ?_
 (and_intros)
 refine hW0 _ _ (cut_set fun W1 hW1 => ?_)
 (and_intros)
 rw [show V.int 12 = nV S f (.p 12) from (num_p pd (by decide)).symm]
 refine pk (N := N + 6) pd c (Nat.le_trans hm (by decide)) (Val.p pd (by decide)) (show 1 ≤ 40 by decide) fun ix1 kv1 σ1 q1 hm1 hv1 U1 => ?_
 have c1 := c.next q1 U1
 have gy1 := gy U1.sta
 have gp1 := pd.gp U1.sta
 (and_intros)
 refine pks0 (N := N + 10) (gl1 U1.sta) ?_
 have U2 := U1.sta.grow [.list []]
 have c2 := c1.same U2
 have gy2 := gy U2.sta
 have gp2 := pd.gp U2.sta
 (and_intros)
 rw [show V.int (-1) = nV S f (.T 99) from numK_99.symm]
 refine pk (N := N + 6) pd c2 (Nat.le_trans (Nat.add_le_add_right hm 80) (by decide)) (.inl rfl) (show 1 ≤ 40 by decide) fun ix3 kv3 σ3 q3 hm3 hv3 U3 => ?_
 have c3 := c2.next q3 U3
 have gy3 := gy U3.sta
 have gp3 := pd.gp U3.sta
 have gp2' : σ3[y + 2]? = some (.list (prm cnt)) := gt 2 rfl U3.sta
 have gp3' : σ3[y + 3]? = some (.list (zer cnt)) := gt 3 rfl U3.sta
 (and_intros)
 refine hW1 _ _ (cut_set fun W2 hW2 => ?_)
 (and_intros)
 refine bound_rows_spec (N := N + 4) (b := cnt) pd c3 (Nat.le_trans (Nat.add_le_add_right (Nat.add_le_add_right hm 80) 80) (by decide)) hcn (pd.inL (h4 _ (List.mem_of_getElem? (i := 4) rfl))) fun σ4 U4 => ?_
 have c4 := c3.same U4
 have gy4 := gy U4.sta
 have g5 : σ4[y + 5]? = some (.list []) := gl5 U4.sta
 have g5' := gl5 U4.sta
 (and_intros)
 refine home0 (N := N + 10) ?_
 (and_intros)
 refine hW2 _ _ (cut_set fun W3 hW3 => ?_)
 (and_intros)
 have U5 := U4.sta.grow [.list []]
 have c5 := c4.same U5
 have gy5 := gy U5.sta
 have g6 : (σ4 ++ [O.list []])[y + 6]? = some (.list [.int (k cc), .int (k cc + 1 : Nat)]) := gl6 U5.sta
 have g6' := gl6 U5.sta
 have UA := ((U1.trans U2).trans U3).trans (U4.trans U5)
 refine hW3 _ _ (cut_set fun W4 hW4 => ?_)
 have hm5 : m + 80 + 80 ≤ 28160 := Nat.add_le_add_right (Nat.add_le_add_right hm 80) 80
 (and_intros)
 refine method_told_spec (N := N) (r0 := ⟨y1, k cc, f cc, 1, g1, 0⟩) (b := .loc (z + 2)) (bT := rsT rs) (bv := fun ix => bdV ix rs) pd c5 (Nat.le_trans hm5 (by decide)) (show 1 ≤ 2 by decide) rfl h2 h5 (.inr ⟨z + 2, rfl, fun cx hm' rq => body_told_spec pd cx hm' hrw.1 (fun r hr => ⟨hrw.2 r hr, hin r hr⟩) (fun p hp => pd.inL (hbd p hp)) rq⟩) fun ix6 kv6 σ6 q6 hm6 hv6 U6 => ?_
 have c6 := c5.next q6 U6
 have g6'' := gl6 U6.sta
 (and_intros)
 refine method_told_spec (N := N) (r0 := ⟨y2, k cc + 1, f cc, 2, g2, 0⟩) (b := .none) (bT := []) (bv := fun _ => .tup []) pd c6 (Nat.le_trans (Nat.add_le_add_right hm5 1040) (by decide)) (Nat.le_refl 2) rfl h3 h6 (.inl ⟨rfl, rfl, rfl⟩) fun ix7 kv7 σ7 q7 _ hv7 U7 => ?_
 have g7'' := gl6 U7.sta
 have U8 := U7.sta.grow [.list ([] ++ [mtV ix6 1 (bdV ix6 rs)] ++ [mtV ix7 2 (.tup [])])]
 have gy8 := gy U8.sta
 have g8 := gl7 U8.sta
 have g8' : (σ7 ++ [O.list ([] ++ [mtV ix6 1 (bdV ix6 rs)] ++ [mtV ix7 2 (.tup [])])])[y + 7]? = some (.list []) := g8
 (and_intros)
 refine hW4 _ _ (cut_set fun W5 hW5 => ?_)
 (and_intros)
 have U9 := U8.sta.grow [.list []]
 have gy9 := gy U9.sta
 have g9 := gl8 U9.sta
 have g9' : (σ7 ++ [O.list ([] ++ [mtV ix6 1 (bdV ix6 rs)] ++ [mtV ix7 2 (.tup [])])] ++ [O.list []])[y + 8]? = some (.list []) := g9
 refine hW5 _ _ (cut_set fun W6 hW6 => ?_)
 (and_intros)
 have U10 := U9.sta.grow [.list []]
 have gy10 := gy U10.sta
 have g10 := gl9 U10.sta
 have g10' : (σ7 ++ [O.list ([] ++ [mtV ix6 1 (bdV ix6 rs)] ++ [mtV ix7 2 (.tup [])])] ++ [O.list []] ++ [O.list []])[y + 9]? = some (.list []) := g10
 refine hW6 _ _ (cut_set fun W7 hW7 => ?_)
 (and_intros)
 have U11 := U10.sta.grow [.list []]
 have gy11 := gy U11.sta
 refine hW7 _ _ (cut_set fun W8 hW8 => ?_)
 (and_intros)
 refine member0 (N := N + 10) ?_
 (and_intros)
 refine member0 (N := N + 10) ?_
 (and_intros)
 refine hW8 _ _ ?_
 have p67 := q7.ext.pre
 have p37 := q6.ext.pre.trans p67
 have p17 := q3.ext.pre.trans p37
 have ev : ∀ ix', ix7 <+: ix' -> ttV ix' nm cnt rs = .tup [.tup [.str nm, .int 1, .int 0, posV ix1 (.p 12), .tup [], posV ix3 (.T 99)], .tup [.tup (prm cnt), .tup (zer cnt), .tup (bnd cnt), .tup []], .tup [], .tup [mtV ix6 1 (bdV ix6 rs), mtV ix7 2 (.tup [])], .tup [], .tup [], .tup [], .tup [.tup [], .tup []]] := fun ix' h => by
  unfold ttV
  rw [show posV ix' (.p 12) = _ from hv1 ix' (p17.trans h), show posV ix' (.T 99) = _ from hv3 ix' (p37.trans h), show mtV ix' 1 _ = _ from hv6 ix' (p67.trans h), show mtV ix' 2 _ = _ from hv7 ix' h]
 have fin : Q (ttV ix7 nm cnt rs) _ := q ix7 kv7 _ ((((q1.trans q3).trans q6).trans q7).le (by decide)) (List.forall_mem_cons.mpr ⟨p17.subset (hm1 _ (.head _)), List.forall_mem_cons.mpr ⟨p37.subset (hm3 _ (.head _)), fun t ht => p67.subset (hm6 t ht)⟩⟩) (fun ix' h => (ev ix' h).trans (ev ix7 List.prefix_rfl).symm) ((UA.trans (U6.trans U7)).trans (((U8.trans U9).trans U10).trans U11))
 rw [ev ix7 List.prefix_rfl] at fin
 (and_intros)
 exact fin
end
theorem opc_inj {a b : Nat} (ha : a < 3) (hb : b < 3) (e : opc a = opc b) : a = b := by
 have back : ∀ {a}, a < 3 -> (if opc a = 40 then 0 else if opc a = 111 then 1 else 2) = a := fun {a} h => by
  rcases lt3' h with rfl | rfl | rfl <;> rfl
 exact (back ha).symm.trans ((congrArg (fun i : Int => if i = 40 then 0 else if i = 111 then 1 else 2) e).trans (back hb))
theorem opc_ne : ∀ {a : Nat}, opc a ≠ 42
 | 0 => by decide
 | 1 => by decide
 | _ + 2 => fun e => absurd (show (65030 : Int) = 42 from e) (by decide)
theorem posV_inj {ix : List Tm} {t u : Tm} (h : t ∈ ix) (h' : u ∈ ix) (e : posV ix t = posV ix u) : t = u := pos_inj h h' (n_inj e)
theorem mkC_inj {c d : Nat} : ∀ {l m : List Tm}, l.length ≤ 2 -> m.length ≤ 2 -> mkC c l = mkC d m -> c = d /\ l = m := fun {l m} hl hm e =>
 ⟨Option.some.inj ((top_mkC hl).symm.trans ((congrArg Tm.top e).trans (top_mkC hm))), (subs_mkC hl).symm.trans ((congrArg Tm.subs e).trans (subs_mkC hm))⟩
section
variable {ix : List Tm} {nt nt' : Nat} {r r' : Row} {rs rs' : List Row} {nm nm' : String} {cnt cnt' : Nat}
theorem rwV_inj (w : Rwf nt r) (w' : Rwf nt' r') (h : ∀ t ∈ r.owner :: r.margs, t ∈ ix) (h' : ∀ t ∈ r'.owner :: r'.margs, t ∈ ix) (e : rwV ix r = rwV ix r') : r = r' := by
 injection e with e; injection e with e1 e; injection e with e; injection e with e; injection e with e2 e; injection e with _ e; injection e with e3; injection e3 with e3; injection e1 with e1
 have h1 := opc_inj w.op w'.op e1
 have h2 := mkC_inj w.al w'.al (posV_inj (h _ (.head _)) (h' _ (.head _)) e2)
 have h4 := map_inj (fun a ha b hb e => posV_inj (h _ (.tail _ ha)) (h' _ (.tail _ hb)) e) e3
 cases r; cases r'
 cases h1; cases h2.1; cases h2.2; cases h4
 rfl
theorem items_inj (w : ∀ r ∈ rs, Rwf nt r) (w' : ∀ r ∈ rs', Rwf nt' r) (h : ∀ t ∈ rsT rs, t ∈ ix) (h' : ∀ t ∈ rsT rs', t ∈ ix) (e : (items rs).map (itV ix) = (items rs').map (itV ix)) : rs = rs' := by
 have hh : ∀ {rs : List Row}, (∀ t ∈ rsT rs, t ∈ ix) -> ∀ r ∈ rs, ∀ t ∈ r.owner :: r.margs, t ∈ ix := fun h r hr t ht => h t (List.mem_flatMap.mpr ⟨r, hr, ht⟩)
 unfold items at e
 rw [List.map_append, List.map_append] at e
 have e := List.append_inj_left' e rfl
 rw [List.map_map, List.map_map] at e
 exact map_inj (fun a ha b hb e => rwV_inj (w a ha) (w' b hb) (hh h a ha) (hh h' b hb) e) e
theorem prm_inj {a b : Nat} (ha : a ≤ 2) (hb : b ≤ 2) (e : prm a = prm b) : a = b := by
 rw [<- prm_len ha, <- prm_len hb, e]
theorem ttV_inj (hc : cnt ≤ 2) (hc' : cnt' ≤ 2) (w : ∀ r ∈ rs, Rwf nt r) (w' : ∀ r ∈ rs', Rwf nt' r) (h : ∀ t ∈ ttT rs, t ∈ ix) (h' : ∀ t ∈ ttT rs', t ∈ ix) (e : ttV ix nm cnt rs = ttV ix nm' cnt' rs') : (nm, cnt) = (nm', cnt') /\ rs = rs' := by
 injection e with e; injection e with e1 e; injection e with e2 e; injection e with _ e; injection e with e3
 injection e1 with e1; injection e1 with e1; injection e1 with e1
 injection e2 with e2; injection e2 with e2; injection e2 with e2
 injection e3 with e3; injection e3 with e3; injection e3 with e3; injection e3 with _ e3; injection e3 with _ e3; injection e3 with e3
 injection e3 with e3; injection e3 with _ e3; injection e3 with _ e3; injection e3 with e3; injection e3 with e3
 rw [e1, prm_inj hc hc' e2, items_inj w w' (fun t ht => h t (.tail _ (.tail _ ht))) (fun t ht => h' t (.tail _ (.tail _ ht))) e3]
 exact ⟨rfl, rfl⟩
theorem all_t {n : Nat} {l : List V} (h : ∀ v ∈ l, pureN n v = true) : pureN (n + 1) (.tup l) = true := List.all_eq_true.mpr h
theorem posV_pure {n : Nat} {t : Tm} : pureN n (posV ix t) = true := by cases n <;> rfl
theorem rwV_pure : pureN 8 (rwV ix r) = true := by
 have h1 : pureN 6 (mnV ix r.c r.margs.length) = true := by
  unfold mnV
  by_cases h : r.c = 13
  ·rw [if_pos h]; rfl
  ·rw [if_neg h]; rfl
 exact all_t (List.forall_mem_cons.mpr ⟨rfl, List.forall_mem_cons.mpr ⟨all_t (List.forall_mem_cons.mpr ⟨posV_pure, List.forall_mem_cons.mpr ⟨h1, List.forall_mem_cons.mpr ⟨all_t fun v hv => by
  obtain ⟨t, _, rfl⟩ := List.mem_map.mp hv
  exact posV_pure, nofun⟩⟩⟩), nofun⟩⟩)
theorem ttV_pure (hc : cnt ≤ 2) : pureN 40 (ttV ix nm cnt rs) = true := by
 have hb : pureN 37 (bdV ix rs) = true := all_t (List.forall_mem_cons.mpr ⟨rfl, List.forall_mem_cons.mpr ⟨rfl, List.forall_mem_cons.mpr ⟨all_t fun v hv => by
  obtain ⟨i, _, rfl⟩ := List.mem_map.mp hv
  cases i with
  | none => rfl
  | some r => exact pureN_le (by decide) rwV_pure, List.forall_mem_cons.mpr ⟨rfl, nofun⟩⟩⟩⟩)
 have hm : ∀ {n b}, n ≤ 2 -> pureN 37 b = true -> pureN 38 (mtV ix n b) = true := fun {n b} hn hb => all_t (List.forall_mem_cons.mpr ⟨by rcases lt3 hn with rfl | rfl | rfl <;> rfl, List.forall_mem_cons.mpr ⟨rfl, List.forall_mem_cons.mpr ⟨hb, nofun⟩⟩⟩)
 refine all_t (List.forall_mem_cons.mpr ⟨rfl, List.forall_mem_cons.mpr ⟨?_, List.forall_mem_cons.mpr ⟨rfl, List.forall_mem_cons.mpr ⟨all_t (List.forall_mem_cons.mpr ⟨hm (by decide) hb, List.forall_mem_cons.mpr ⟨hm (by decide) rfl, nofun⟩⟩), List.forall_mem_cons.mpr ⟨rfl, List.forall_mem_cons.mpr ⟨rfl, List.forall_mem_cons.mpr ⟨rfl, List.forall_mem_cons.mpr ⟨rfl, nofun⟩⟩⟩⟩⟩⟩⟩⟩)
 rcases lt3 hc with rfl | rfl | rfl <;> rfl
end
theorem intsL_len : ∀ (n : Nat) (lo : Int), (intsL lo n).length = n
 | 0, _ => rfl
 | n + 1, _ => congrArg (· + 1) (intsL_len n _)
theorem intsL_at : ∀ (n lo i : Nat), i < n -> (intsL lo n)[i]? = some (.int (lo + i : Nat))
 | 0, _, _, h => absurd h (Nat.not_lt_zero _)
 | n + 1, lo, 0, h => rfl
 | n + 1, lo, i + 1, h => (intsL_at n (lo + 1) i (Nat.lt_of_succ_lt_succ h)).trans (by rw [Nat.add_right_comm]; rfl)
theorem rng1 {n : Nat} : rngL 1 ((n + 1 : Nat) : Int) = intsL 1 n := by
 unfold rngL
 rw [show (((n + 1 : Nat) : Int) - 1) = (n : Int) from Int.add_sub_cancel (n : Int) 1]
 rfl
noncomputable def nats (l : List Nat) : List V := l.map fun (n : Nat) => V.int n
noncomputable def ownV (f : Nat -> Nat) (j : Nat) : List V := nats ((List.range j).map f)
theorem ownV_succ {f : Nat -> Nat} {j : Nat} : ownV f (j + 1) = ownV f j ++ [.int (f j)] := by unfold ownV nats; rw [List.range_succ, List.map_append, List.map_append]; rfl
theorem ownV_len {f : Nat -> Nat} {j : Nat} : (ownV f j).length = j := by unfold ownV nats; rw [List.length_map, List.length_map, List.length_range]
theorem ownV_at {f : Nat -> Nat} {j c : Nat} (h : c < j) : (ownV f j)[c]? = some (.int (f c)) := by unfold ownV nats; rw [List.getElem?_map, List.getElem?_map, List.getElem?_range h]; rfl
section
variable {W : WL} {S : Sv} {L : Facts} {lib name : String} {x : Nat} {types : List (String × Nat)} {rows : List (List Row)} {f k : Nat -> Nat} {σ : St} {Q : Post}
theorem asm_name_spec {N : Nat} (gst : σ[W.st]? = some (stO W)) (gam : σ[W.am]? = some (.list (S.am.map V.str))) (ld : Laid S L lib x name types rows f k) (q : Q (.str name) σ) : wpF (N + 1) .asm_name [.loc W.st, .int x] Q σ := by
 have e1 : (S.am.map V.str)[x]? = some (.str name) := by rw [List.getElem?_map, ld.am]; rfl
 have e2 : ¬ (x : Int) < 0 := Int.not_lt.mpr (Int.natCast_nonneg x)
 have e3 : ¬ ((S.am.map V.str).length : Int) ≤ (x : Int) := Int.not_le.mpr (Int.ofNat_lt.mpr (len_of e1))
 refine enter2 rfl ?_
 delta body_asm_name
 (and_intros)
theorem Laid.pos (ld : Laid S L lib x name types rows f k) {c : Nat} (hc : c < types.length) : 0 < f c /\ f c < S.tyl.length := ex2 (ld.std c _ _ (List.getElem?_eq_getElem hc)) fun z rs a => ⟨Nat.lt_of_lt_of_le (by decide) a.2.1.lo, a.2.1.len.1⟩
def OwnI (types : List (String × Nat)) (f : Nat -> Nat) (k : Nat) (acc : List V) : Prop := ∃ j, (j ≤ types.length /\ acc = ownV f j) /\ (∀ c, c < j -> f c ≤ k) /\ (j < types.length -> k < f j)
theorem OwnI.yes (ld : Laid S L lib x name types rows f k) {n : Nat} {acc : List V} (h : OwnI types f n acc) {c : Nat} (hc : c < types.length) (hf : f c = n + 1) : OwnI types f (n + 1) (acc ++ [.int (n + 1 : Nat)]) := ex1 h fun j h => by
 have hj : j ≤ c := Nat.le_of_not_lt fun z => absurd (h.2.1 c z) (Nat.not_le.mpr (hf ▸ Nat.lt_succ_self n))
 have hcj : c = j := by
  rcases Nat.lt_or_eq_of_le hj with z | z
  ·have h1 := h.2.2 (Nat.lt_trans z hc)
   have h2 := ld.mono j c z hc
   rw [hf] at h2
   exact absurd h1 (Nat.not_lt.mpr (Nat.le_of_lt_succ h2))
  ·exact z.symm
 subst hcj
 refine ⟨c + 1, ⟨hc, by rw [ownV_succ, h.1.2, hf]⟩, fun d hd => ?_, fun hd => hf ▸ ld.mono c (c + 1) (Nat.lt_succ_self c) hd⟩
 rcases ltS hd with hd | rfl
 ·exact Nat.le_succ_of_le (h.2.1 d hd)
 ·exact Nat.le_of_eq hf
theorem OwnI.no {n : Nat} {acc : List V} (h : OwnI types f n acc) (hn : ∀ c, c < types.length -> f c ≠ n + 1) : OwnI types f (n + 1) acc := ex1 h fun j h =>
 ⟨j, h.1, fun c hc => Nat.le_succ_of_le (h.2.1 c hc), fun hj => Nat.lt_of_le_of_ne (h.2.2 hj) (hn j hj).symm⟩
theorem own_types_spec {N : Nat} (gst : σ[W.st]? = some (stO W)) (gty : σ[W.ty]? = some (.list (S.tyl.map tyV))) (gL : ∀ p ∈ L, σ[p.1]? = some p.2) (ld : Laid S L lib x name types rows f k) (all : TyAll S L) (sz : S.tyl.length ≤ 9000) (q : Q (.loc σ.length) (σ ++ [.list (ownV f types.length)])) : wpF (N + 1) .own_types [.loc W.st, .int x] Q σ := by
 obtain ⟨n, hn⟩ : ∃ n, S.tyl.length = n + 1 := ⟨_, (Nat.succ_pred_eq_of_pos (len_of ld.t0.1)).symm⟩
 have hlm : (S.tyl.map tyV).length = n + 1 := (List.length_map _).trans hn
 have er : rngL 1 ((S.tyl.map tyV).length : Int) = intsL 1 n := by rw [hlm]; exact rng1
 have f1 : fit ((S.tyl.map tyV).length : Int) := by rw [hlm, <- hn]; exact fit_n (Nat.ble_eq_true_of_le (Nat.le_trans sz (by decide)))
 have l1 : Nat.ble (rngL 1 ((S.tyl.map tyV).length : Int)).length lim = true := by rw [er, intsL_len]; exact lim_of (Nat.le_trans (Nat.le_trans (Nat.le_succ n) (hn ▸ sz)) (by decide))
 refine enter2 rfl ?_
 delta body_own_types
 (and_intros)
 rw [er]
 refine comp_rule2 (fun n acc σ' => σ' = σ /\ OwnI types f n acc) _ 0 _ _ _ ⟨rfl, 0, ⟨Nat.zero_le _, rfl⟩, nofun, fun h => (ld.pos h).1⟩ (fun _ _ _ _ => trivial) (fun j v acc σ' P hv hI hP => ?_) fun acc σ' hI => ?_
 ·have hj : j < n := by have := len_of hv; rwa [intsL_len] at this
  have hv : v = .int (1 + j : Nat) := Option.some.inj (hv.symm.trans (intsL_at n 1 j hj))
  subst hv
  obtain ⟨rfl, hI⟩ := hI
  rw [Nat.zero_add] at hI hP
  have ej : (1 + j : Nat) = j + 1 := Nat.add_comm _ _
  rw [ej]
  have hjl : j + 1 < S.tyl.length := hn ▸ Nat.succ_lt_succ hj
  cases ho : S.tyl[j + 1]? with
  | none => exact absurd (List.getElem?_eq_none_iff.mp ho) (Nat.not_le.mpr hjl)
  | some o =>
   cases o with
   | none =>
    have e1 : (S.tyl.map tyV)[j + 1]? = some .none := by rw [List.getElem?_map, ho]; rfl
    have key := hP acc σ' ⟨rfl, hI.no fun c hc e => ex2 (ld.std c _ _ (List.getElem?_eq_getElem hc)) fun z rs a => ex5 a.2.1.ex fun _ _ _ _ _ b => by rw [e, ho] at b; cases b.1.1⟩
    delta cc_own_types_0
    (and_intros)
   | some r =>
    have e1 := tyl_at ho
    refine ex1 (all (j + 1) r ho) fun ms hms => ?_
    have gy := gL _ (hms _ (.head _))
    by_cases hx : r.asm = x
    ·have e2 : (r.asm : Int) = (x : Int) := by rw [hx]
     have key := ex1 ((ld.own _ r ho).mp hx) fun c h => hP (acc ++ [.int (j + 1 : Nat)]) σ' ⟨rfl, hI.yes ld h.1 h.2⟩
     delta cc_own_types_0
     (and_intros)
     delta ce_own_types_0
     (and_intros)
     exact key
    ·have e2 : ¬ (r.asm : Int) = (x : Int) := fun e => hx (Int.ofNat.inj e)
     have key := hP acc σ' ⟨rfl, hI.no fun c hc e => hx ((ld.own _ r ho).mpr ⟨c, hc, e⟩)⟩
     delta cc_own_types_0
     (and_intros)
 ·obtain ⟨rfl, hI⟩ := hI
  rw [intsL_len, Nat.zero_add] at hI
  refine ex1 hI fun j h => ?_
  have hj : j = types.length := (Nat.lt_or_eq_of_le h.1.1).resolve_left fun z => absurd (h.2.2 z) (Nat.not_lt.mpr (Nat.le_of_lt_succ (Nat.lt_of_lt_of_eq (ld.pos z).2 hn)))
  rw [h.1.2, hj]
  exact q
end
noncomputable def plk (f : Nat -> Nat) (n : Nat) : List (V × V) := (List.range n).map fun (c : Nat) => (V.int (f c), V.int c)
section
variable {W : WL} {S : Sv} {L : Facts} {lib name : String} {x : Nat} {types : List (String × Nat)} {rows : List (List Row)} {f k : Nat -> Nat} {σ : St} {Q : Post}
theorem Laid.fne (ld : Laid S L lib x name types rows f k) {c d : Nat} (hc : c < d) (hd : d < types.length) : V.int (f c) ≠ .int (f d) := fun e => Nat.ne_of_lt (ld.mono c d hc hd) (n_inj e)
theorem plk_put (ld : Laid S L lib x name types rows f k) {n : Nat} (hn : n < types.length) : dput (plk f n) (.int (f n)) (.int n) = plk f (n + 1) := by
 have e : plk f (n + 1) = plk f n ++ [(.int (f n), .int n)] := by unfold plk; rw [List.range_succ, List.map_append]; rfl
 rw [e]
 refine dput_fresh fun e he => ?_
 obtain ⟨c, hc, rfl⟩ := List.mem_map.mp he
 exact ld.fne (List.mem_range.mp hc) hn
theorem plk_ok (f : Nat -> Nat) (n : Nat) : ∀ e ∈ plk f n, kd e.1 = 1 := fun e he => by
 obtain ⟨c, _, rfl⟩ := List.mem_map.mp he
 rfl
theorem plk_get (ld : Laid S L lib x name types rows f k) {n : Nat} (hn : n ≤ types.length) : ∀ c, c < n -> dget (plk f n) (.int (f c)) = some (.int c) := by
 induction n with
 | zero => exact fun c hc => absurd hc (Nat.not_lt_zero c)
 | succ n ih =>
  intro c hc
  rw [<- plk_put ld hn]
  rcases ltS hc with hc | rfl
  ·rw [dget_put_ne fun e => ld.fne hc hn e.symm]
   exact ih (Nat.le_of_succ_le hn) c hc
  ·exact dget_put
theorem plk_none {n tid : Nat} (h : ∀ c, c < n -> f c ≠ tid) : dget (plk f n) (.int tid) = none := dget_none fun e he q => by
 obtain ⟨c, hc, rfl⟩ := List.mem_map.mp he
 exact h c (List.mem_range.mp hc) (n_inj q)
theorem paths_init_spec {N : Nat} {ol ixl : Nat} (ld : Laid S L lib x name types rows f k) (hnt : types.length ≤ 9) (ho : σ[ol]? = some (.list (ownV f types.length))) (q : Q .none (σ ++ [.inst .Paths [(.store, .loc W.st), (.places, .loc (σ.length + 1)), (.index, .loc ixl), (.known, .loc (σ.length + 2))], .dict (plk f types.length), .dict []])) :
  wpF (N + 1) .Paths_init [.loc σ.length, .loc W.st, .loc ol, .loc ixl] Q (σ ++ [.inst .Paths []]) := by
 have lh : Nat -> St := fun j => [.inst .Paths [(.store, .loc W.st), (.places, .loc (σ.length + 1))], .dict (plk f j)]
 have loop := for_rule (lv := fun _ => True) (body := wpS (wpF N) Q lb_Paths_init_0) (i := 4) (fun a : Option V => [some (.loc σ.length), some (.loc W.st), some (.loc ol), some (.loc ixl), a]) (fun j _ σ' => σ' = σ ++ [.inst .Paths [(.store, .loc W.st), (.places, .loc (σ.length + 1))], .dict (plk f j)]) (rngL 0 types.length) 0 (wpS (wpF N) Q lk_Paths_init_0 fun _ σ' => Q .none σ') none _ rfl (fun _ _ _ _ => trivial) (fun j v a σ' N' hv hI hN => ?_) fun a σ' hI => ?_
 ·have fl : fit ((ownV f types.length).length : Int) := by rw [ownV_len]; exact fit_n (Nat.ble_eq_true_of_le (Nat.le_trans hnt (by decide)))
  refine enter4 rfl ?_
  delta body_Paths_init
  repeat first | ((with_reducible apply st_lv); exact rfl; kernel_rfl; exact rfl) | ((with_reducible apply st_dict); kernel_rfl; exact rfl)
  refine cut_loop fun W0 hW0 => ?_
  (sizeOf_list_dec)
  refine hW0 _ _ _ (.mk (.rng 0 _) ?_)
  rw [ownV_len]
  refine hp_eq (P := fun s => forW (fun _ => True) false [4] (wpS (wpF N) Q lb_Paths_init_0) (rngL 0 types.length) (wpS (wpF N) Q lk_Paths_init_0 fun _ σ' => Q .none σ') [some (.loc σ.length), some (.loc W.st), some (.loc ol), some (.loc ixl), none] s) loop ?_
  kernel_rfl
 ·have hj : j < types.length := by have := len_of hv; rwa [rng_len] at this
  have hv : v = .int j := Option.some.inj (hv.symm.trans (rng_at hj))
  subst hv hI
  rw [Nat.zero_add] at hN ⊢
  have fin := hN (some (.int j)) _ rfl
  have ej := ownV_at (f := f) hj
  have kk : keyOk (plk f j) (.int (f j)) := key1 (plk_ok f j) _
  have lp : Nat.blt (plk f j).length lim = true := by unfold plk; rw [List.length_map, List.length_range]; exact lim_of (Nat.le_trans hj (Nat.le_trans hnt (by decide)))
  have ep := plk_put ld hj
  delta lb_Paths_init_0
  (sizeOf_list_dec)
  exact fin
 ·rw [rng_len, Nat.zero_add] at hI
  subst hI
  delta lk_Paths_init_0
  repeat first | ((with_reducible apply st_lv); exact rfl; kernel_rfl; exact rfl) | ((with_reducible apply st_dict); kernel_rfl; exact rfl)
  refine hp_eq (P := fun s => Q .none s) q ?_
  kernel_rfl
end
structure SD (D : Facts) (W : WL) (S : Sv) (L : Facts) (lib name : String) (x : Nat) (types : List (String × Nat)) (rows : List (List Row)) (f k : Nat -> Nat) : Prop where
 laid : Laid S L lib x name types rows f k
 all : TyAll S L
 kt : KT S.ts
 tyl : S.tyl.length ≤ 9000
 sub : ∀ q ∈ gF W S L, q ∈ D
 lib : lib ≠ "core"
 nt : types.length ≤ 4
 rwf : ∀ rs ∈ rows, rs.length ≤ 2 /\ ∀ r ∈ rs, Rwf types.length r
 rlen : rows.length = types.length
section
variable {D D' : Facts} {W W' : WL} {S S' : Sv} {L L' : Facts} {lib name name' : String} {x x' : Nat} {types types' : List (String × Nat)} {rows rows' : List (List Row)} {f k f' k' : Nat -> Nat} {σ : St} {P P' : PLoc} {ix ix' : List Tm} {kv kv' : List (V × V)} {m nt nt' : Nat}
theorem SD.mono (sd : SD D W S L lib name x types rows f k) (h : ∀ p ∈ D, p ∈ D') : SD D' W S L lib name x types rows f k :=
 ⟨sd.laid, sd.all, sd.kt, sd.tyl, fun q hq => h q (sd.sub q hq), sd.lib, sd.nt, sd.rwf, sd.rlen⟩
theorem SD.pd (sd : SD D W S L lib name x types rows f k) (h : ∀ p ∈ D, p ∈ D') (pi : (P.p, pO W P) ∈ D') (pp : (P.pl, O.dict (plk f types.length)) ∈ D') : PD D' W S L lib name x types rows f k P :=
 ⟨sd.laid, sd.kt, fun q hq => h q (sd.sub q hq), pi, ⟨_, pp, plk_ok f _, plk_get sd.laid (Nat.le_refl _), fun tid ht => plk_none ht⟩, sd.lib, Nat.le_trans sd.nt (by decide), sd.rwf, sd.rlen⟩
theorem KN.gro {w : Nat} (h : KN S f nt ix kv) (e : Gro ix ix' w) : KN S f nt ix' kv := ⟨h.k1, fun t v ht hv => ⟨e.mem (h.kn t v ht hv).1, (h.kn t v ht hv).2.trans (e.pos (h.kn t v ht hv).1).symm⟩⟩
theorem Upd.perm2 {fs fs' gs gs' : Facts} {σ σ' : St} (U : Upd fs fs' σ σ') (p : fs.Perm gs) (p' : fs'.Perm gs') : Upd gs gs' σ σ' :=
 have m : ∀ n, n ∈ idx fs ↔ n ∈ idx gs := fun n => (p.map (fun q : Nat × O => q.1)).mem_iff
 have V := U.perm p'
 ⟨V.has, V.nd, fun n hn hf => V.other n hn fun z => hf ((m n).mp z), fun n hn => (V.new n hn).imp (m n).mp id, V.len⟩
structure Two (S : Sv) (f : Nat -> Nat) (nt : Nat) (S' : Sv) (f' : Nat -> Nat) (nt' : Nat) (ix : List Tm) (kv kv' : List (V × V)) (m : Nat) : Prop where
 ok : IX ix
 kn : KN S f nt ix kv
 kn' : KN S' f' nt' ix kv'
 l1 : ix.length ≤ m
 l2 : kv.length ≤ m
 l3 : kv'.length ≤ m
theorem told_step {N j : Nat} {R : Post} {Nn : Nt} (pd : PD D W S L lib name x types rows f k P) (pd' : PD D W' S' L' lib name' x' types' rows' f' k' P') (hix : P.ixl = P'.ixl)
  (T : Two S f types.length S' f' types'.length ix kv kv' m) (hm : m ≤ 25600) (h : Sta σ (oF P lib ix kv ((P'.kl, .dict kv') :: D)))
  {ol ol' : Nat} (mo : (ol, O.list (ownV f types.length)) ∈ D) (mo' : (ol', O.list (ownV f' types'.length)) ∈ D) (hj : j < types.length) (hj' : j < types'.length) {st st' a1 a3 ixv : Option V}
  (qt : ∀ ix2 kv2 kv2' σ', types[j]? = types'[j]? -> rows[j]? = rows'[j]? -> Two S f types.length S' f' types'.length ix2 kv2 kv2' (m + 4800) -> Upd (oF P lib ix kv ((P'.kl, .dict kv') :: D)) (oF P lib ix2 kv2 ((P'.kl, .dict kv2') :: D)) σ σ' -> Nn [st, a1, st', a3, some (.loc ol), some (.loc ol'), ixv, some (.loc P.p), some (.loc P'.p), some (.int j)] σ')
  (qf : ∀ ix2 kv2 kv2' σ', ¬ (types[j]? = types'[j]? /\ rows[j]? = rows'[j]?) -> Upd (oF P lib ix kv ((P'.kl, .dict kv') :: D)) (oF P lib ix2 kv2 ((P'.kl, .dict kv2') :: D)) σ σ' -> R (.bool false) σ') :
  wpS (wpF (N + 12)) R lb_same_defs_0 Nn [st, a1, st', a3, some (.loc ol), some (.loc ol'), ixv, some (.loc P.p), some (.loc P'.p), some (.int j)] σ := by
 have hty : types[j]? = some (types[j].1, types[j].2) := List.getElem?_eq_getElem hj
 have hty' : types'[j]? = some (types'[j].1, types'[j].2) := List.getElem?_eq_getElem hj'
 have hrs := List.getElem?_eq_getElem (pd.rlen.symm ▸ hj : j < rows.length)
 have hrs' := List.getElem?_eq_getElem (pd'.rlen.symm ▸ hj' : j < rows'.length)
 have hr := fun r hr => (pd.rwf _ (List.mem_of_getElem? hrs)).2 r hr
 have hr' := fun r hr => (pd'.rwf _ (List.mem_of_getElem? hrs')).2 r hr
 generalize types[j].1 = nm at hty
 generalize types[j].2 = cnt at hty
 generalize types'[j].1 = nm' at hty'
 generalize types'[j].2 = cnt' at hty'
 generalize rows[j]'_ = rs at hrs hr
 generalize rows'[j]'_ = rs' at hrs' hr'
 rw [hty, hty', hrs, hrs'] at qt qf
 have hcn : cnt ≤ 2 := ex2 (pd.laid.std j nm cnt hty) fun z rs a => a.2.1.cn
 have hcn' : cnt' ≤ 2 := ex2 (pd'.laid.std j nm' cnt' hty') fun z rs a => a.2.1.cn
 have e1 := ownV_at (f := f) hj
 have e2 := ownV_at (f := f') hj'
 have g1 : σ[ol]? = some (.list (ownV f types.length)) := g_D h (.tail _ mo)
 have ep : ∀ ix a b, (oF P lib ix a ((P'.kl, .dict b) :: D)).Perm (oF P' lib ix b ((P.kl, .dict a) :: D)) := fun ix a b => by
  unfold oF
  rw [hix]
  exact List.Perm.cons _ (List.Perm.swap _ _ _)
 delta lb_same_defs_0
 refine cut_ite fun W0 hW0 => ?_
 (and_intros)
 refine type_told_spec (N := N) pd.more ⟨h, T.ok, T.kn, T.l1, T.l2⟩ (Nat.le_trans hm (by decide)) hty hrs fun ix1 kv1 σ1 q1 hm1 hv1 U1 => ?_
 have g2 : σ1[ol']? = some (.list (ownV f' types'.length)) := g_D U1.sta (.tail _ mo')
 have U1' := U1.perm (ep _ _ _)
 have l24 : m + 2400 ≤ 28000 := Nat.add_le_add_right hm 2400
 (and_intros)
 refine type_told_spec (N := N) pd'.more (m := m + 2400) ⟨U1'.sta, q1.ok, T.kn'.gro q1.ext, Nat.le_trans q1.ext.len (Nat.add_le_add_right T.l1 _), Nat.le_trans T.l3 (Nat.le_add_right _ _)⟩ l24 hty' hrs' fun ix2 kv2 σ2 q2 hm2 hv2 U2 => ?_
 have U := U1.trans (U2.perm2 (ep _ _ _).symm (ep _ _ _).symm)
 have T2 : Two S f types.length S' f' types'.length ix2 kv1 kv2 (m + 4800) := ⟨q2.ok, q1.kn.gro q2.ext, q2.kn, Nat.le_trans q2.ext.len (Nat.add_le_add_right (Nat.le_trans q1.ext.len (Nat.add_le_add_right T.l1 2400)) 2400), Nat.le_trans q1.len (Nat.le_trans (Nat.add_le_add_right T.l2 2400) (Nat.add_le_add_left (by decide) m)), Nat.le_trans q2.len (Nat.le_trans (Nat.add_le_add_right T.l3 2400) (Nat.add_le_add_left (by decide) m))⟩
 have e3 : ttV ix1 nm cnt rs = ttV ix2 nm cnt rs := (hv1 ix2 q2.ext.pre).symm
 have p1 : pureN 40 (ttV ix2 nm cnt rs) = true := ttV_pure hcn
 have p2 : pureN 40 (ttV ix2 nm' cnt' rs') = true := ttV_pure hcn'
 have d1 := dat_pure σ2 40 40 _ (Nat.le_refl _) p1
 have d2 := dat_pure σ2 40 40 _ (Nat.le_refl _) p2
 have hi : ttV ix2 nm cnt rs = ttV ix2 nm' cnt' rs' ↔ ((nm, cnt) = (nm', cnt') /\ rs = rs') := ⟨ttV_inj hcn hcn' hr hr' (fun t ht => q2.ext.mem (hm1 t ht)) hm2, fun e => by cases e.1; cases e.2; rfl⟩
 show CmpW .NotEq _ _ σ2 (ttV ix2 nm' cnt' rs' :: ttV ix1 nm cnt rs :: _)
 rw [e3]
 by_cases hh : (nm, cnt) = (nm', cnt') /\ rs = rs'
 ·have et := eqv_t (t := true) p1 p2 (hi.trans ⟨fun _ => rfl, fun _ => hh⟩)
  have fin := qt ix2 kv1 kv2 σ2 (congrArg some hh.1) (congrArg some hh.2) T2 U
  refine .ne d1 d2 et ?_
  (and_intros)
  exact hW0 _ _ fin
 ·have et := eqv_t (t := false) p1 p2 (hi.trans ⟨fun z => (hh z).elim, fun z => Bool.noConfusion z⟩)
  have fin := qf ix2 kv1 kv2 σ2 (fun z => hh ⟨Option.some.inj z.1, Option.some.inj z.2⟩) U
  refine .ne d1 d2 et ?_
  (and_intros)
  exact fin
end
section
variable {D : Facts} {W W' : WL} {S S' : Sv} {L L' : Facts} {lib name name' : String} {x x' : Nat} {types types' : List (String × Nat)} {rows rows' : List (List Row)} {f k f' k' : Nat -> Nat} {σ : St}
theorem ix0 : IX [] := ⟨List.nodup_nil, nofun, nofun⟩
theorem kn0 {S : Sv} {f : Nat -> Nat} {nt : Nat} : KN S f nt [] [] := ⟨nofun, fun t v _ h => nomatch h⟩
theorem eq_of_get {α : Type} {l m : List α} (hl : l.length = m.length) (h : ∀ c, c < l.length -> l[c]? = m[c]?) : l = m := List.ext_getElem? fun c => by
 rcases Nat.lt_or_ge c l.length with hc | hc
 ·exact h c hc
 ·rw [List.getElem?_eq_none hc, List.getElem?_eq_none (hl ▸ hc)]
noncomputable abbrev sdP (n : Nat) : PLoc := ⟨n + 3, n + 5, n + 4, n + 2⟩
noncomputable abbrev sdP' (n : Nat) : PLoc := ⟨n + 6, n + 8, n + 7, n + 2⟩
noncomputable def sdO (n : Nat) (W W' : WL) (f f' : Nat -> Nat) (a b : Nat) : St := [.list (ownV f a), .list (ownV f' b), .dict [], pO W (sdP n), .dict (plk f a), .dict [], pO W' (sdP' n), .dict (plk f' b), .dict []]
noncomputable def sdD (n : Nat) (W W' : WL) (f f' : Nat -> Nat) (a b : Nat) (D : Facts) : Facts := [(n, .list (ownV f a)), (n + 1, .list (ownV f' b)), (n + 3, pO W (sdP n)), (n + 4, .dict (plk f a)), (n + 6, pO W' (sdP' n)), (n + 7, .dict (plk f' b))] ++ D
theorem sd_facts {a b : Nat} (h : Sta σ D) : Upd D (oF (sdP σ.length) lib [] [] ((σ.length + 8, .dict []) :: sdD σ.length W W' f f' a b D)) σ (σ ++ sdO σ.length W W' f f' a b) := by
 have U := h.pushF (sdO σ.length W W' f f' a b)
 refine U.choose (fun p hp => ?_) ?_
 ·have e : oF (sdP σ.length) lib [] [] ((σ.length + 8, .dict []) :: sdD σ.length W W' f f' a b D) = [(σ.length + 2, .dict []), (σ.length + 5, .dict []), (σ.length + 8, .dict []), (σ.length, .list (ownV f a)), (σ.length + 1, .list (ownV f' b)), (σ.length + 3, pO W (sdP σ.length)), (σ.length + 4, .dict (plk f a)), (σ.length + 6, pO W' (sdP' σ.length)), (σ.length + 7, .dict (plk f' b))] ++ D := rfl
  rw [e] at hp
  rcases List.mem_append.mp hp with hp | hp
  ·refine List.mem_append_right _ (sub_ix [2, 5, 8, 0, 1, 3, 4, 6, 7] ?_ p hp)
   kernel_rfl
  ·exact List.mem_append_left _ hp
 ·have e : idx (oF (sdP σ.length) lib [] [] ((σ.length + 8, .dict []) :: sdD σ.length W W' f f' a b D)) = ([2, 5, 8, 0, 1, 3, 4, 6, 7].map (σ.length + ·)) ++ idx D := rfl
  rw [e]
  refine List.nodup_append.mpr ⟨List.Pairwise.map (R := fun a b : Nat => a ≠ b) _ (fun a b n e => n (Nat.add_left_cancel e)) (show List.Nodup _ by decide), h.nd, fun a ha b hb q => ?_⟩
  obtain ⟨i, _, rfl⟩ := List.mem_map.mp ha
  exact Nat.lt_irrefl _ (Nat.lt_of_le_of_lt (Nat.le_add_right σ.length i) (q ▸ h.has.lt hb))
theorem same_defs_spec {N : Nat} {Q : Post} (sd : SD D W S L lib name x types rows f k) (sd' : SD D W' S' L' lib name' x' types' rows' f' k') (h : Sta σ D)
  (q : ∀ σ' (t : Bool), (Alike name types rows name' types' rows' ↔ t = true) -> Upd D D σ σ' -> Q (.bool t) σ') : wpF (N + 13) .same_defs [.loc W.st, .int x, .loc W'.st, .int x'] Q σ := by
 have G : ∀ {σ}, Has σ D -> Has σ (gF W S L) := fun h p hp => h p (sd.sub p hp)
 have G' : ∀ {σ}, Has σ D -> Has σ (gF W' S' L') := fun h p hp => h p (sd'.sub p hp)
 have no : ∀ {σ'}, ¬ Alike name types rows name' types' rows' -> Upd D D σ σ' -> Q (.bool false) σ' := fun hn U => q _ false ⟨fun z => (hn z).elim, fun z => Bool.noConfusion z⟩ U
 refine enter4 rfl ?_
 delta body_same_defs
 refine cut_ite fun W0 hW0 => ?_
 (and_intros)
 refine asm_name_spec (N := N + 11) ((G h.has).ix 9 rfl) ((G h.has).ix 13 rfl) sd.laid ?_
 (and_intros)
 refine asm_name_spec (N := N + 11) ((G' h.has).ix 9 rfl) ((G' h.has).ix 13 rfl) sd'.laid ?_
 by_cases hnm : name = name'
 case neg =>
  have e1 := str_f hnm
  have fin := no (fun z => hnm z.1) h.refl
  (and_intros)
  exact fin
 have e1 : (name == name') = true := beq_iff_eq.mpr hnm
 (and_intros)
 refine hW0 _ _ (cut_set fun W1 hW1 => ?_)
 (and_intros)
 have U1 := h.grow [.list (ownV f types.length)]
 have U2 := U1.sta.grow [.list (ownV f' types'.length)]
 refine own_types_spec (N := N + 11) ((G h.has).ix 9 rfl) ((G h.has).ix 10 rfl) (fun p hp => G h.has p (List.mem_append_right _ (List.mem_append_right _ hp))) sd.laid sd.all sd.tyl ?_
 refine hW1 _ _ (cut_set fun W2 hW2 => ?_)
 (and_intros)
 refine own_types_spec (N := N + 11) ((G' U1.has).ix 9 rfl) ((G' U1.has).ix 10 rfl) (fun p hp => G' U1.has p (List.mem_append_right _ (List.mem_append_right _ hp))) sd'.laid sd'.all sd'.tyl ?_
 refine hW2 _ _ (cut_ite fun W3 hW3 => ?_)
 by_cases hlen : types.length = types'.length
 case neg =>
  have e2 : ¬ ((ownV f types.length).length : Int) = ((ownV f' types'.length).length : Int) := fun e => hlen (by have := Int.ofNat.inj e; rwa [ownV_len, ownV_len] at this)
  have fin := no (fun z => hlen (by rw [z.2.1])) (U1.trans U2)
  (and_intros)
  exact fin
 have e2 : ((ownV f types.length).length : Int) = ((ownV f' types'.length).length : Int) := by rw [ownV_len, ownV_len, hlen]
 (and_intros)
 refine hW3 _ _ (cut_set fun W4 hW4 => ?_)
 (and_intros)
 refine hW4 _ _ (cut_set fun W5 hW5 => ?_)
 have n9 := Nat.le_trans sd.nt (show 4 ≤ 9 by decide)
 have n9' := Nat.le_trans sd'.nt (show 4 ≤ 9 by decide)
 (and_intros)
 refine paths_init_spec (N := N + 11) sd.laid n9 (lk_app (lk_app lk_new)) ⟨rfl, ?_⟩
 (and_intros)
 refine hW5 _ _ (cut_set fun W6 hW6 => ?_)
 (and_intros)
 refine paths_init_spec (N := N + 11) sd'.laid n9' (lk_app (lk_app lk_new)) ⟨rfl, ?_⟩
 (and_intros)
 refine hW6 _ _ ?_
 have l1 : (σ ++ [O.list (ownV f types.length)]).length = σ.length + 1 := List.length_append
 have l2 : (σ ++ [O.list (ownV f types.length)] ++ [O.list (ownV f' types'.length)]).length = σ.length + 2 := by rw [List.length_append, l1]; rfl
 have l3 : (σ ++ [O.list (ownV f types.length)] ++ [O.list (ownV f' types'.length)] ++ [O.dict []]).length = σ.length + 3 := by rw [List.length_append, l2]; rfl
 rw [l1, l2, l3]
 rw [List.length_append, l3]
 have U := sd_facts (W := W) (W' := W') (lib := lib) (f := f) (f' := f') (a := types.length) (b := types'.length) h
 have hsh : ∀ A : St, σ ++ [O.list (ownV f types.length)] ++ [O.list (ownV f' types'.length)] ++ [O.dict []] ++ [O.inst .Paths [(.store, .loc W.st), (.places, .loc (σ.length + 3 + 1)), (.index, .loc (σ.length + 2)), (.known, .loc (σ.length + 3 + 2))], .dict (plk f types.length), .dict []] ++ A = σ ++ ([O.list (ownV f types.length), .list (ownV f' types'.length), .dict [], .inst .Paths [(.store, .loc W.st), (.places, .loc (σ.length + 3 + 1)), (.index, .loc (σ.length + 2)), (.known, .loc (σ.length + 3 + 2))], .dict (plk f types.length), .dict []] ++ A) := fun A => by rw [List.append_assoc, List.append_assoc, List.append_assoc, List.append_assoc]; rfl
 rw [hsh]
 generalize hσ4 : σ ++ sdO σ.length W W' f f' types.length types'.length = σ4 at U
 refine (congrArg (fun s => wpS (wpF (N + 12)) Q (.for' [9] false (.call (.gv (.bi .range) "range") (.cons (.call (.gv (.bi .len) "len") (.cons (.lv 4) .nil)) .nil)) lb_same_defs_0 lk_same_defs_0) (fun _ σ' => Q .none σ') [some (.loc W.st), some (.int x), some (.loc W'.st), some (.int x'), some (.loc σ.length), some (.loc (σ.length + 1)), some (.loc (σ.length + 2)), some (.loc (sdP σ.length).p), some (.loc (sdP' σ.length).p), none] s) hσ4).mpr ?_
 clear hσ4 hsh
 have hDc : ∀ p ∈ D, p ∈ sdD σ.length W W' f f' types.length types'.length D := fun p hp => List.mem_append_right _ hp
 have pd : PD _ W S L lib name x types rows f k (sdP σ.length) := sd.pd hDc (.tail _ (.tail _ (.head _))) (.tail _ (.tail _ (.tail _ (.head _))))
 have pd' : PD _ W' S' L' lib name' x' types' rows' f' k' (sdP' σ.length) := sd'.pd hDc (.tail _ (.tail _ (.tail _ (.tail _ (.head _))))) (.tail _ (.tail _ (.tail _ (.tail _ (.tail _ (.head _))))))
 have gl : σ4[σ.length]? = some (.list (ownV f types.length)) := g_D U.sta (.tail _ (.head _))
 have fl : fit ((ownV f types.length).length : Int) := by rw [ownV_len]; exact fit_n (Nat.ble_eq_true_of_le (Nat.le_trans n9 (by decide)))
 have back : ∀ {ix kv kv' σ'}, Upd D (oF (sdP σ.length) lib ix kv ((σ.length + 8, .dict kv') :: sdD σ.length W W' f f' types.length types'.length D)) σ σ' -> Upd D D σ σ' := fun U => U.choose (fun p hp => .tail _ (.tail _ (.tail _ (hDc p hp)))) h.nd
 refine cut_loop fun W7 hW7 => ?_
 (and_intros)
 rw [ownV_len]
 refine hW7 _ _ _ (.mk (.rng 0 _) (for_rule (fun a : Option V => [some (.loc W.st), some (.int x), some (.loc W'.st), some (.int x'), some (.loc σ.length), some (.loc (σ.length + 1)), some (.loc (σ.length + 2)), some (.loc (sdP σ.length).p), some (.loc (sdP' σ.length).p), a])
  (fun j _ σ' => ∃ ix kv kv', Two S f types.length S' f' types'.length ix kv kv' (j * 4800) /\ (∀ c, c < j -> types[c]? = types'[c]? /\ rows[c]? = rows'[c]?) /\ Upd D (oF (sdP σ.length) lib ix kv ((σ.length + 8, .dict kv') :: sdD σ.length W W' f f' types.length types'.length D)) σ σ') _ 0 _ none _
  ⟨[], [], [], ⟨ix0, kn0, kn0, Nat.le_refl 0, Nat.le_refl 0, Nat.le_refl 0⟩, nofun, U⟩ (fun _ _ _ _ => trivial) (fun j v a σ' N' hv hI hN => ?_) fun a σ' hI => ?_))
 ·have hj : j < types.length := by have := len_of hv; rwa [rng_len] at this
  have hv : v = .int j := Option.some.inj (hv.symm.trans (rng_at hj))
  subst hv
  rw [Nat.zero_add] at hI hN
  refine ex3 hI fun ix kv kv' i => ?_
  have hj4 : j * 4800 ≤ 25600 := Nat.le_trans (Nat.mul_le_mul_right 4800 (Nat.le_trans (Nat.le_of_lt hj) sd.nt)) (by decide)
  refine told_step (N := N) (P := sdP σ.length) (P' := sdP' σ.length) pd pd' rfl i.1 hj4 i.2.2.sta (.head _) (.tail _ (.head _)) hj (hlen ▸ hj) (fun ix2 kv2 kv2' σ2 ht hr T2 U2 => hN (some (.int j)) σ2 ⟨ix2, kv2, kv2', ?_, fun c hc => ?_, i.2.2.trans U2⟩) fun ix2 kv2 kv2' σ2 hne U2 => no (fun z => hne ⟨by rw [z.2.1], by rw [z.2.2]⟩) (back (i.2.2.trans U2))
  ·rw [Nat.succ_mul]; exact T2
  ·rcases ltS hc with hc | rfl
   ·exact i.2.1 c hc
   ·exact ⟨ht, hr⟩
 ·refine ex3 hI fun ix kv kv' i => ?_
  rw [rng_len, Nat.zero_add] at i
  have ht : types = types' := eq_of_get hlen fun c hc => (i.2.1 c hc).1
  have hr : rows = rows' := eq_of_get (by rw [sd.rlen, sd'.rlen, hlen]) fun c hc => (i.2.1 c (sd.rlen ▸ hc)).2
  have fin := q σ' true ⟨fun _ => rfl, fun _ => ⟨hnm, ht, hr⟩⟩ (back i.2.2)
  delta lk_same_defs_0
  (and_intros)
  exact fin
end
section
variable {D : Facts} {W W' : WL} {S S' : Sv} {L L' : Facts} {lib name name' : String} {x x' : Nat} {types types' : List (String × Nat)} {rows rows' : List (List Row)} {f k f' k' : Nat -> Nat} {σ : St} {Q : Post} {wl nl at' : Nat} {nums : List Int}
theorem alike_comm : Alike name' types' rows' name types rows ↔ Alike name types rows name' types' rows' := ⟨fun h => ⟨h.1.symm, h.2.1.symm, h.2.2.symm⟩, fun h => ⟨h.1.symm, h.2.1.symm, h.2.2.symm⟩⟩
theorem ask_spec (h : Sta σ (wF wl nl nums at' ++ D)) (hw : WW nums) (hb : at' + 1 ≤ 10000) (sd : SD D W S L lib name x types rows f k) (sd' : SD D W' S' L' lib name' x' types' rows' f' k')
  (q : ∀ σ' (t : Bool), (Alike name types rows name' types' rows' ↔ t = true) -> Sta σ' (wF wl nl nums (at' + 1) ++ D) -> Q (.bool t) σ') : wpF 60 .law_ask [.loc wl, .loc W.s, .int x, .loc W'.s, .int x'] Q σ := by
 refine enter5 rfl ?_
 delta body_law_ask
 refine cut_ite fun W0 hW0 => ?_
 (and_intros)
 refine draw_D (m := 2) h hw (Nat.le_of_succ_le hb) (by decide) fun r σ1 hr h1 => ?_
 have m1 : ∀ p ∈ D, p ∈ wF wl nl nums (at' + 1) ++ D := fun p hp => List.mem_append_right _ hp
 have g1 : σ1[W.s]? = some (sO W) := Has.ix (fs := gF W S L) (fun p hp => h1.has p (m1 p (sd.sub p hp))) 6 rfl
 have g2 : σ1[W'.s]? = some (sO W') := Has.ix (fs := gF W' S' L') (fun p hp => h1.has p (m1 p (sd'.sub p hp))) 6 rfl
 rcases ltS hr with hr | rfl
 ·rw [Nat.lt_one_iff.mp hr]
  refine IfW.f (.int rfl) (hW0 _ _ ?_)
  (and_intros)
  exact wpF_le (n := 13) (by decide) (same_defs_spec (N := 0) (sd.mono m1) (sd'.mono m1) h1.sta fun σ2 t ht U => q σ2 t ht U.sta)
 ·refine IfW.t (.int rfl) ?_
  (and_intros)
  exact wpF_le (n := 13) (by decide) (same_defs_spec (N := 0) (sd'.mono m1) (sd.mono m1) h1.sta fun σ2 t ht U => q σ2 t (alike_comm.symm.trans ht) U.sta)
end
theorem Sta.perm {σ : St} {fs gs : Facts} (h : Sta σ fs) (p : fs.Perm gs) : Sta σ gs := ⟨fun q hq => h.has q (p.mem_iff.mpr hq), (p.map (fun q : Nat × O => q.1)).nodup_iff.mp h.nd⟩
theorem nd_eq : ∀ {F : Facts}, (idx F).Nodup -> ∀ {p q : Nat × O}, p ∈ F -> q ∈ F -> p.1 = q.1 -> p = q
 | r :: F, nd, p, q, hp, hq, e => by
  have n := List.nodup_cons.mp nd
  rcases List.mem_cons.mp hp with h1 | h1
  ·rcases List.mem_cons.mp hq with h2 | h2
   ·rw [h1, h2]
   ·exact (n.1 (List.mem_map.mpr ⟨q, h2, by rw [<- e, h1]⟩)).elim
  ·rcases List.mem_cons.mp hq with h2 | h2
   ·exact (n.1 (List.mem_map.mpr ⟨p, h1, by rw [e, h2]⟩)).elim
   ·exact nd_eq n.2 h1 h2 e
noncomputable def others (F C : Facts) : Facts := F.filter fun p => !(idx C).contains p.1
theorem mem_others {F C : Facts} {p : Nat × O} : p ∈ others F C ↔ p ∈ F /\ p.1 ∉ idx C := by
 unfold others
 rw [List.mem_filter, Bool.not_eq_true', <- Bool.not_eq_true, List.contains_iff_mem]
theorem hand_over {σ : St} {A B C W : Facts} (h : Sta σ (A ++ (W ++ B))) (hC : ∀ p ∈ C, p ∈ A) (ndC : (idx C).Nodup) : Sta σ ((B ++ C) ++ (others A C ++ W)) := by
 refine ⟨fun p hp => h.has p ?_, ?_⟩
 ·rcases List.mem_append.mp hp with hp | hp
  ·rcases List.mem_append.mp hp with hp | hp
   ·exact List.mem_append_right _ (List.mem_append_right _ hp)
   ·exact List.mem_append_left _ (hC p hp)
  ·rcases List.mem_append.mp hp with hp | hp
   ·exact List.mem_append_left _ (mem_others.mp hp).1
   ·exact List.mem_append_right _ (List.mem_append_left _ hp)
 ·have nd := h.nd
  rw [idx_app, idx_app] at nd
  rw [idx_app, idx_app, idx_app]
  have n := List.nodup_append.mp nd
  have m := List.nodup_append.mp n.2.1
  have cA : ∀ n ∈ idx C, n ∈ idx A := fun n hn => by
   obtain ⟨p, hp, rfl⟩ := List.mem_map.mp hn
   exact List.mem_map_of_mem (hC p hp)
  have oA : ∀ n ∈ idx (others A C), n ∈ idx A /\ n ∉ idx C := fun n hn => by
   obtain ⟨p, hp, rfl⟩ := List.mem_map.mp hn
   have := mem_others.mp hp
   exact ⟨List.mem_map_of_mem this.1, this.2⟩
  have ond : (idx (others A C)).Nodup := ((List.filter_sublist (l := A)).map (fun q : Nat × O => q.1)).nodup n.1
  refine List.nodup_append.mpr ⟨List.nodup_append.mpr ⟨m.2.1, ndC, fun a ha b hb e => n.2.2 b (cA b hb) a (List.mem_append_right _ ha) e.symm⟩, List.nodup_append.mpr ⟨ond, m.1, fun a ha b hb e => n.2.2 a (oA a ha).1 b (List.mem_append_left _ hb) e⟩, fun a ha b hb e => ?_⟩
  rcases List.mem_append.mp ha with ha | ha <;> rcases List.mem_append.mp hb with hb | hb
  ·exact n.2.2 b (oA b hb).1 a (List.mem_append_right _ ha) e.symm
  ·exact m.2.2 b hb a ha e.symm
  ·exact (oA b hb).2 (e ▸ ha)
  ·exact n.2.2 a (cA a ha) b (List.mem_append_left _ hb) e
noncomputable def lwAsk : Mine.S := (.ite (.boo false (.cons (.not (.call (.gv (.fn .law_ask) "_law_ask") (.cons (.lv 2) (.cons (.lv 4) (.cons (.lv 9) (.cons (.lv 5) (.cons (.lv 10) .nil))))))) (.cons (.cmp .NotEq (.call (.gv (.fn .law_ask) "_law_ask") (.cons (.lv 2) (.cons (.lv 4) (.cons (.lv 9) (.cons (.lv 5) (.cons (.lv 11) .nil)))))) (.call (.gv (.fn .law_alike) "_law_alike") (.cons (.lv 6) (.cons (.lv 7) .nil)))) .nil)))
 (.ret (.const (.bool false)) .nil)
 .nil
 (.ite (.cmp .NotEq (.call (.gv (.fn .law_ask) "_law_ask") (.cons (.lv 2) (.cons (.lv 5) (.cons (.lv 10) (.cons (.lv 5) (.cons (.lv 12) .nil)))))) (.call (.gv (.fn .law_alike) "_law_alike") (.cons (.lv 6) (.cons (.lv 8) .nil))))
 (.ret (.const (.bool false)) .nil)
 .nil
 (.ret (.cmp .Eq (.call (.gv (.fn .law_ask) "_law_ask") (.cons (.lv 2) (.cons (.lv 5) (.cons (.lv 11) (.cons (.lv 5) (.cons (.lv 12) .nil)))))) (.call (.gv (.fn .law_alike) "_law_alike") (.cons (.lv 7) (.cons (.lv 8) .nil)))) .nil)))
noncomputable def lwLay : Mine.S := (.set 9 (.call (.gv (.fn .law_lay) "_law_lay") (.cons (.lv 4) (.cons (.lv 6) (.cons (.const (.int 0)) .nil))))
 (.set 10 (.call (.gv (.fn .law_lay) "_law_lay") (.cons (.lv 5) (.cons (.lv 6) (.cons (.const (.int 1)) .nil))))
 (.set 11 (.call (.gv (.fn .law_lay) "_law_lay") (.cons (.lv 5) (.cons (.lv 7) (.cons (.call (.gv (.fn .law_draw) "_law_draw") (.cons (.lv 2) (.cons (.const (.int 2)) .nil))) .nil))))
 (.set 12 (.call (.gv (.fn .law_lay) "_law_lay") (.cons (.lv 5) (.cons (.lv 8) (.cons (.call (.gv (.fn .law_draw) "_law_draw") (.cons (.lv 2) (.cons (.const (.int 2)) .nil))) .nil))))
 lwAsk))))
structure De where
 dl : Nat
 tl : Nat
 cl : Nat
 name : String
 types : List (String × Nat)
 code : List (Nat × List Row)
noncomputable def De.F (d : De) : Facts := dF d.dl d.tl d.cl d.name d.types d.code
def De.wf (d : De) : Prop := Dwf d.name d.types d.code
noncomputable abbrev De.rows (d : De) : List (List Row) := d.code.map (·.2)
abbrev SDe (D : Facts) (W : WL) (S : Sv) (L : Facts) (lib : String) (x : Nat) (d : De) (f k : Nat -> Nat) : Prop := SD D W S L lib d.name x d.types d.rows f k
section
variable {D : Facts} {σ : St} {wl nl at' : Nat} {nums : List Int} {lib : String}
theorem law_asks {Nn : Nt} {Wa Wb : WL} {Sa Sb : Sv} {La Lb : Facts} {x y u v : Nat} {d e g : De} {fa ka fy ky fu ku fv kv : Nat -> Nat} {r0 r1 r3 : Option V} (h : Sta σ (wF wl nl nums at' ++ D)) (hw : WW nums) (hb : at' + 4 ≤ 10000)
  (sx : SDe D Wa Sa La lib x d fa ka) (sy : SDe D Wb Sb Lb lib y d fy ky) (su : SDe D Wb Sb Lb lib u e fu ku) (sv : SDe D Wb Sb Lb lib v g fv kv) (hd : ∀ p ∈ d.F, p ∈ D) (he : ∀ p ∈ e.F, p ∈ D) (hg : ∀ p ∈ g.F, p ∈ D) (wd : d.wf) (we : e.wf) (wg : g.wf) :
  wpS (wpF 60) (fun v _ => v = .bool true) lwAsk Nn [r0, r1, some (.loc wl), r3, some (.loc Wa.s), some (.loc Wb.s), some (.loc d.dl), some (.loc e.dl), some (.loc g.dl), some (.int x), some (.int y), some (.int u), some (.int v)] σ := by
 have sub : ∀ {at' : Nat} {σ : St} {F : Facts}, Sta σ (wF wl nl nums at' ++ D) -> (∀ p ∈ F, p ∈ D) -> Has σ F := fun h hF p hp => h.has p (List.mem_append_right _ (hF p hp))
 have tt : ∀ {A : Prop} {a b : Bool}, (A ↔ a = true) -> (A ↔ b = true) -> b = a := fun {A a b} h g => by
  cases a with
  | true => exact g.mp (h.mpr rfl)
  | false => cases b with
   | false => rfl
   | true => exact Bool.noConfusion (h.mp (g.mpr rfl))
 delta lwAsk
 refine cut_ite fun W1 hW1 => ?_
 (and_intros)
 refine ask_spec h hw (Nat.le_trans (Nat.add_le_add_left (by decide) at') hb) sx sy fun σ1 t1 e1 h1 => ?_
 rw [e1.mp ⟨rfl, rfl, rfl⟩]
 (and_intros)
 refine ask_spec h1 hw (Nat.le_trans (Nat.add_le_add_left (show 2 ≤ 4 by decide) at') hb) sx su fun σ2 t2 e2 h2 => ?_
 (and_intros)
 refine alike_spec (N := 59) (sub h2 hd) (sub h2 he) wd we fun t2' e2' => ?_
 rw [tt e2 e2']
 have key : W1 [r0, r1, some (.loc wl), r3, some (.loc Wa.s), some (.loc Wb.s), some (.loc d.dl), some (.loc e.dl), some (.loc g.dl), some (.int x), some (.int y), some (.int u), some (.int v)] σ2 := by
  refine hW1 _ _ (cut_ite fun W2 hW2 => ?_)
  (and_intros)
  refine ask_spec h2 hw (Nat.le_trans (Nat.add_le_add_left (show 3 ≤ 4 by decide) at') hb) sy sv fun σ3 t3 e3 h3 => ?_
  (and_intros)
  refine alike_spec (N := 59) (sub h3 hd) (sub h3 hg) wd wg fun t3' e3' => ?_
  rw [tt e3 e3']
  have key : W2 [r0, r1, some (.loc wl), r3, some (.loc Wa.s), some (.loc Wb.s), some (.loc d.dl), some (.loc e.dl), some (.loc g.dl), some (.int x), some (.int y), some (.int u), some (.int v)] σ3 := by
   refine hW2 _ _ ?_
   (and_intros)
   refine ask_spec h3 hw hb su sv fun σ4 t4 e4 h4 => ?_
   (and_intros)
   refine alike_spec (N := 59) (sub h4 he) (sub h4 hg) we wg fun t4' e4' => ?_
   rw [tt e4 e4']
   cases t4 with
   | true => (and_intros)
   | false => (and_intros)
  cases t3 with
  | true => (and_intros); exact key
  | false => (and_intros); exact key
 cases t2 with
 | true => (and_intros); exact key
 | false => (and_intros); exact key
end
section
variable {D : Facts} {σ : St} {wl nl at' : Nat} {nums : List Int} {lib : String}
theorem mkSD {W : WL} {S : Sv} {L : Facts} {li n x : Nat} {dn : List Nat} {d : De} {f k : Nat -> Nat} (w : WInv S L lib li dn n) (hn : n ≤ 9000) (ld : Laid S L lib x d.name d.types d.rows f k) (hs : ∀ q ∈ gF W S L, q ∈ D) (hl : lib ≠ "core") (wd : d.wf) : SDe D W S L lib x d f k :=
 ⟨ld, w.all, w.ok.kt, Nat.le_trans w.ok.tyl hn, hs, hl, wd.tl.2, fun rs hrs => by
  obtain ⟨p, hp, rfl⟩ := List.mem_map.mp hrs
  exact wd.rl p hp, (List.length_map _).trans wd.cl⟩
theorem lay_step {W : WL} {S : Sv} {L R : Facts} {li n btw : Nat} {d : De} {Q : Post} (h : Sta σ (gF W S L ++ R)) (wd : d.wf) (hd : ∀ p ∈ d.F, p ∈ L) (hn : n ≤ 3000) (hbtw : btw = 0 ∨ btw = 1) (wi : WInv S L lib li [10, 11, 12] n)
  (q : ∀ S' L' f k σ', Laid S' L' lib S.am.length d.name d.types d.rows f k -> WInv S' L' lib li [10, 11, 12] (n + 600) -> Ext (fun m => S.mel.length ≤ m) S S' L L' -> (∀ (tid : Nat) (r : TyR), S.tyl.length ≤ tid -> S'.tyl[tid]? = some (some r) -> r.asm = 0 ∨ r.asm = S.am.length) -> S'.am.length = S.am.length + 1 -> Sta σ' (gF W S' L' ++ R) -> Q (.int S.am.length) σ') :
  wpF 60 .law_lay [.loc W.s, .loc d.dl, .int btw] Q σ :=
 wpF_le (n := 12) (by decide) (lay_spec (n := n) ⟨h.has.left, by have := h.nd; rw [idx_app] at this; exact (List.nodup_append.mp this).1⟩ wd hd hn hbtw wi fun S' L' f k σ' ld w' e hty ham U =>
  q S' L' f k σ' ld w' e hty (by rw [ham, List.length_append]; rfl) (U.keep h.has.right h.nd).sta)
theorem pm1 {A X Y C : Facts} : (A ++ (X ++ (Y ++ C))).Perm ((X ++ C) ++ (A ++ Y)) := by
 refine List.perm_append_comm.trans ?_
 rw [List.append_assoc, List.append_assoc, List.append_assoc]
 refine List.Perm.append_left _ ?_
 rw [<- List.append_assoc C A Y]
 exact List.perm_append_comm
theorem pm2 {G O W : Facts} : (G ++ (O ++ W)).Perm (W ++ (G ++ O)) := by
 rw [<- List.append_assoc]
 exact List.perm_append_comm
theorem F_keep {X : Nat -> Prop} {S S' : Sv} {L L' : Facts} (e : Ext X S S' L L') {d : De} (h : ∀ p ∈ d.F, p ∈ L) : ∀ p ∈ d.F, p ∈ L' := fun p hp => e.L p (h p hp) (dF_ne hp)
theorem WInv.more {S : Sv} {L C : Facts} {li n : Nat} {dn : List Nat} (w : WInv S L lib li dn n) : WInv S (L ++ C) lib li dn n :=
 have e : Ext (fun _ => False) S S L (L ++ C) := ⟨List.prefix_rfl, List.prefix_rfl, List.prefix_rfl, List.prefix_rfl, fun p hp _ => List.mem_append_left _ hp⟩
 w.go e (fun m z => z.elim) w.ok (w.all.mono e rfl) (fun _ _ _ _ z => z) w.asms
theorem law_lays {Nn : Nt} {Wa Wb : WL} {Sa Sb : Sv} {La Lb C : Facts} {lia lib' : Nat} {d e g : De} {r0 r1 r3 : Option V} (h : Sta σ (wF wl nl nums at' ++ (gF Wa Sa La ++ (gF Wb Sb Lb ++ C)))) (hC : C = d.F ++ (e.F ++ g.F)) (hw : WW nums) (hb : at' + 6 ≤ 10000) (hl : lib ≠ "core")
  (wa : WInv Sa La lib lia [10, 11, 12] 200) (wb : WInv Sb Lb lib lib' [10, 11, 12] 200) (wd : d.wf) (we : e.wf) (wg : g.wf) :
  wpS (wpF 60) (fun v _ => v = .bool true) lwLay Nn [r0, r1, some (.loc wl), r3, some (.loc Wa.s), some (.loc Wb.s), some (.loc d.dl), some (.loc e.dl), some (.loc g.dl), none, none, none, none] σ := by
 have dC : ∀ {L : Facts}, ∀ p ∈ d.F, p ∈ L ++ C := fun p hp => List.mem_append_right _ (hC ▸ List.mem_append_left _ hp)
 have eC : ∀ {L : Facts}, ∀ p ∈ e.F, p ∈ L ++ C := fun p hp => List.mem_append_right _ (hC ▸ List.mem_append_right _ (List.mem_append_left _ hp))
 have gC : ∀ {L : Facts}, ∀ p ∈ g.F, p ∈ L ++ C := fun p hp => List.mem_append_right _ (hC ▸ List.mem_append_right _ (List.mem_append_right _ hp))
 have Call : ∀ {L : Facts}, (∀ p ∈ d.F, p ∈ L) -> (∀ p ∈ e.F, p ∈ L) -> (∀ p ∈ g.F, p ∈ L) -> ∀ p ∈ C, p ∈ L := fun a b c p hp => by
  rw [hC] at hp
  exact (List.mem_append.mp hp).elim (a p) fun z => (List.mem_append.mp z).elim (b p) (c p)
 have ndC : (idx C).Nodup := by
  have nd := h.nd
  rw [idx_app, idx_app, idx_app] at nd
  exact (List.nodup_append.mp (List.nodup_append.mp (List.nodup_append.mp nd).2.1).2.1).2.1
 have H0 := h.perm pm1
 rw [gF_app] at H0
 have in01 : ∀ {r : Nat}, r < 2 -> r = 0 ∨ r = 1 := fun h => (ltS h).imp_left Nat.lt_one_iff.mp
 have b1 := fun j (hj : j ≤ 6) => Nat.le_trans (Nat.add_le_add_left hj at') hb
 delta lwLay
 refine cut_set fun W1 hW1 => ?_
 (and_intros)
 refine lay_step (btw := 0) H0 wd dC (by decide) (.inl rfl) wa.more fun Sa1 La1 fa ka σ1 ldx wa1 ea _ _ h1 => ?_
 have CA : ∀ p ∈ C, p ∈ gF Wa Sa1 La1 := fun p hp => List.mem_append_right _ (List.mem_append_right _ (Call (F_keep ea dC) (F_keep ea eC) (F_keep ea gC) p hp))
 have h2 := hand_over h1 CA ndC
 rw [gF_app] at h2
 refine hW1 _ _ (cut_set fun W2 hW2 => ?_)
 (and_intros)
 refine lay_step (btw := 1) h2 wd dC (by decide) (.inr rfl) wb.more fun S1 L1 fy ky σ2 ldy w1 e1 ty1 am1 h3 => ?_
 refine hW2 _ _ (cut_set fun W3 hW3 => ?_)
 (and_intros)
 refine draw_D (m := 2) (h3.perm pm2) hw (b1 0 (by decide)) (by decide) fun ru σ3 hru d3 => ?_
 (and_intros)
 refine lay_step (btw := ru) (R := others (gF Wa Sa1 La1) C ++ wF wl nl nums (at' + 1)) (d3.sta.perm pm2.symm) we (F_keep e1 eC) (by decide) (in01 hru) w1 fun S2 L2 fu ku σ4 ldu w2 e2 ty2 am2 h4 => ?_
 refine hW3 _ _ (cut_set fun W4 hW4 => ?_)
 (and_intros)
 refine draw_D (m := 2) (h4.perm pm2) hw (b1 1 (by decide)) (by decide) fun rv σ5 hrv d5 => ?_
 (and_intros)
 refine lay_step (btw := rv) (R := others (gF Wa Sa1 La1) C ++ wF wl nl nums (at' + 1 + 1)) (d5.sta.perm pm2.symm) wg (F_keep e2 (F_keep e1 gC)) (by decide) (in01 hrv) w2 fun S3 L3 fv kv σ6 ldv w3 e3 ty3 am3 h5 => ?_
 have hpos : 0 < Sb.am.length := len_of wb.core
 have h12 : Sb.am.length < S1.am.length := am1 ▸ Nat.lt_succ_self _
 have h23 : S1.am.length < S2.am.length := am2 ▸ Nat.lt_succ_self _
 have off : ∀ {a b c : Nat}, a = 0 ∨ a = b -> 0 < c -> c < b -> a ≠ c := fun h h0 hb => h.elim (fun e => e ▸ Nat.ne_of_lt h0) fun e => e ▸ Nat.ne_of_gt hb
 have ldu3 := ldu.go e3 (fun _ z => z) fun tid r ht hr => off (ty3 tid r ht hr) (Nat.lt_trans hpos h12) h23
 have ldy3 := (ldy.go e2 (fun _ z => z) fun tid r ht hr => off (ty2 tid r ht hr) hpos h12).go e3 (fun _ z => z) fun tid r ht hr => off (ty3 tid r ht hr) hpos (Nat.lt_trans h12 h23)
 have d3' : ∀ p ∈ d.F, p ∈ L3 := F_keep e3 (F_keep e2 (F_keep e1 dC))
 have e3' : ∀ p ∈ e.F, p ∈ L3 := F_keep e3 (F_keep e2 (F_keep e1 eC))
 have g3' : ∀ p ∈ g.F, p ∈ L3 := F_keep e3 (F_keep e2 (F_keep e1 gC))
 have C3 := Call d3' e3' g3'
 have inD : ∀ p ∈ L3, p ∈ gF Wb S3 L3 ++ others (gF Wa Sa1 La1) C := fun p hp => List.mem_append_left _ (List.mem_append_right _ (List.mem_append_right _ hp))
 have nda : (idx (gF Wa Sa1 La1)).Nodup := by
  have n1 := h1.nd
  rw [idx_app] at n1
  exact (List.nodup_append.mp n1).1
 have subA : ∀ q ∈ gF Wa Sa1 La1, q ∈ gF Wb S3 L3 ++ others (gF Wa Sa1 La1) C := fun q hq => by
  by_cases hqc : q.1 ∈ idx C
  ·obtain ⟨p, hp, hpq⟩ := List.mem_map.mp hqc
   exact nd_eq nda (CA p hp) hq hpq ▸ inD p (C3 p hp)
  ·exact List.mem_append_right _ (mem_others.mpr ⟨hq, hqc⟩)
 have subB : ∀ q ∈ gF Wb S3 L3, q ∈ gF Wb S3 L3 ++ others (gF Wa Sa1 La1) C := fun q hq => List.mem_append_left _ hq
 refine hW4 _ _ ?_
 exact law_asks (e := e) (g := g) (d := d) (Wa := Wa) (Wb := Wb) (h5.perm pm2) hw hb (mkSD wa1 (by decide) ldx subA hl wd) (mkSD w3 (by decide) ldy3 subB hl wd) (mkSD w3 (by decide) ldu3 subB hl we) (mkSD w3 (by decide) ldv subB hl wg)
  (fun p hp => inD p (d3' p hp)) (fun p hp => inD p (e3' p hp)) (fun p hp => inD p (g3' p hp)) wd we wg
end
section
variable {σ : St} {nums : List Int} {Nn : Nt}
noncomputable def lwMain : Mine.S := (.set 2 (.dict (.cons (.const (.str "nums")) (.cons (.lv 1) (.cons (.const (.str "at")) (.cons (.const (.int 0)) .nil)))))
 (.set 3 (.idx (.tup (.cons (.const (.str "lib")) (.cons (.const (.str "app")) .nil))) (.call (.gv (.fn .law_draw) "_law_draw") (.cons (.lv 2) (.cons (.const (.int 2)) .nil))))
 (.set 4 (.call (.gv (.fn .law_world) "_law_world") (.cons (.lv 3) (.cons (.const (.int 0)) .nil)))
 (.set 5 (.call (.gv (.fn .law_world) "_law_world") (.cons (.lv 3) (.cons (.bin .Add (.const (.int 1)) (.call (.gv (.fn .law_draw) "_law_draw") (.cons (.lv 2) (.cons (.const (.int 2)) .nil)))) .nil)))
 (.set 6 (.call (.gv (.fn .law_described) "_law_described") (.cons (.lv 2) .nil))
 (.set 7 (.call (.gv (.fn .law_changed) "_law_changed") (.cons (.lv 2) (.cons (.lv 6) (.cons (.const (.int 1)) .nil))))
 (.set 8 (.call (.gv (.fn .law_changed) "_law_changed") (.cons (.lv 2) (.cons (.lv 6) (.cons (.call (.gv (.fn .law_draw) "_law_draw") (.cons (.lv 2) (.cons (.const (.int 10)) .nil))) .nil))))
 lwLay)))))))
theorem law_main {nl : Nat} {r0 : Option V} (hn : σ[nl]? = some (.list (nums.map .int))) (hw : WW nums) :
  wpS (wpF 60) (fun v _ => v = .bool true) lwMain Nn [r0, some (.loc nl), none, none, none, none, none, none, none, none, none, none, none] σ := by
 have H0 : Sta (σ ++ [wO nl 0]) (wF σ.length nl nums 0 ++ []) := ⟨Has.app (Has.cons lk_new (Has.cons (lk_app hn) Has.nil)) Has.nil, List.nodup_cons.mpr ⟨fun z => Nat.lt_irrefl σ.length (by have e : σ.length = nl := List.mem_singleton.mp z; have := len_of hn; rwa [<- e] at this), List.nodup_cons.mpr ⟨List.not_mem_nil, List.nodup_nil⟩⟩⟩
 have p0 : ∀ {X : Facts}, (X ++ []).Perm X := List.Perm.of_eq (List.append_nil _)
 delta lwMain
 refine cut_set fun W1 hW1 => ?_
 (and_intros)
 refine hW1 _ _ (cut_set fun W2 hW2 => ?_)
 (and_intros)
 refine draw_D (m := 2) H0 hw (by decide) (by decide) fun r σ1 hr h1 => ?_
 generalize σ.length = wl at h1 ⊢
 obtain ⟨lib, hl, hix⟩ : ∃ lib : String, lib ≠ "core" /\ [V.str "lib", V.str "app"][r]? = some (.str lib) := by
  rcases ltS hr with hr | rfl
  ·rw [Nat.lt_one_iff.mp hr]; exact ⟨"lib", by decide, rfl⟩
  ·exact ⟨"app", by decide, rfl⟩
 (and_intros)
 refine hW2 _ _ (cut_set fun W3 hW3 => ?_)
 (and_intros)
 refine wpF_le (n := 12) (by decide) (world_spec (D := []) (turn := 0) (by decide) ⟨Has.nil, List.nodup_nil⟩ fun Wa Sa La lia σ2 wa _ Ua => ?_)
 have Ua' := (Ua.keep (gs := wF wl nl nums (0 + 1) ++ []) h1.has h1.nd).sta.perm (List.perm_append_comm.trans (List.Perm.append_right _ p0))
 refine hW3 _ _ (cut_set fun W4 hW4 => ?_)
 (and_intros)
 refine draw_D (m := 2) Ua' hw (by decide) (by decide) fun t σ3 ht h3 => ?_
 (and_intros)
 refine wpF_le (n := 12) (by decide) (world_spec (D := []) (turn := 1 + t) (Nat.add_lt_add_left ht 1) ⟨Has.nil, List.nodup_nil⟩ fun Wb Sb Lb lib' σ4 wb _ Ub => ?_)
 have Ub' := (Ub.keep (gs := wF wl nl nums (0 + 1 + 1) ++ gF Wa Sa La) h3.has h3.nd).sta.perm (List.perm_append_comm.trans (List.Perm.of_eq (List.append_assoc _ _ _)))
 refine hW4 _ _ (cut_set fun W5 hW5 => ?_)
 (and_intros)
 refine wpF_le (n := 12) (by decide) (described_spec Ub' hw (by decide) fun dl tl cl name types code σ5 at5 wd h3' hat5 Ud => ?_)
 refine hW5 _ _ (cut_set fun W6 hW6 => ?_)
 (and_intros)
 have hsub : ∀ p ∈ dF dl tl cl name types code, p ∈ (gF Wa Sa La ++ gF Wb Sb Lb) ++ dF dl tl cl name types code := fun p hp => List.mem_append_right _ hp
 have b5 : at5 ≤ 402 := hat5
 refine wpF_le (n := 11) (by decide) (changed_spec (way := 1) Ud.sta hsub wd hw (Nat.le_trans (Nat.add_le_add_right b5 12) (by decide)) (by decide) h3' fun dl2 tl2 cl2 name2 types2 code2 σ6 at6 we hat6 Ue => ?_)
 have b6 : at6 ≤ 414 := Nat.le_trans hat6 (Nat.add_le_add_right b5 12)
 refine hW6 _ _ (cut_set fun W7 hW7 => ?_)
 (and_intros)
 refine draw_D (m := 10) Ue.sta hw (Nat.le_trans b6 (by decide)) (by decide) fun way σ7 hway h7 => ?_
 (and_intros)
 refine wpF_le (n := 11) (by decide) (changed_spec (way := way) h7.sta (fun p hp => List.mem_append_left _ (hsub p hp)) wd hw (Nat.le_trans (Nat.add_le_add_right (Nat.succ_le_succ b6) 12) (by decide)) hway h3' fun dl3 tl3 cl3 name3 types3 code3 σ8 at8 wg hat8 Ug => ?_)
 have b8 : at8 ≤ 427 := Nat.le_trans hat8 (Nat.add_le_add_right (Nat.succ_le_succ b6) 12)
 have H8 := Ug.sta
 rw [List.append_assoc, List.append_assoc, List.append_assoc] at H8
 refine hW7 _ _ ?_
 exact law_lays (d := ⟨dl, tl, cl, name, types, code⟩) (e := ⟨dl2, tl2, cl2, name2, types2, code2⟩) (g := ⟨dl3, tl3, cl3, name3, types3, code3⟩) H8 rfl hw (Nat.le_trans (Nat.add_le_add_right b8 6) (by decide)) hl wa wb wd we wg
end
theorem law_is {Nn : Nt} (ns : List Int) : wpS (wpF 60) (fun v _ => v = .bool true) body_law Nn [some (.rol (ns.map .int)), none, none, none, none, none, none, none, none, none, none, none, none] [] := by
 have hml : (ns.take 48).length ≤ 48 := List.length_take_le _ _
 have l1 : Nat.ble (List.take 48 (ns.map V.int)).length lim = true := lim_of (Nat.le_trans (List.length_take_le _ _) (by decide))
 have loop : ∀ (l acc : List Int) {ρ : Fr} {σ : St} {lv : St -> Prop} {Q : List V -> St -> Prop}, lv σ -> Q ((acc ++ l.map (· % 1000003)).map V.int) σ ->
   compW lv (tgt 0) (fun _ Q σ => Q (.bool true) σ) (fun κ' Q' σ' => wpE (wpF 60) ce_law_0 κ' (kOne Q') ρ σ' []) (l.map V.int) (acc.map V.int) Q σ := by
  intro l
  induction l with
  | nil => exact fun acc ρ σ lv Q hl q => ⟨hl, by rwa [List.map_nil, List.append_nil] at q⟩
  | cons n l ih =>
   intro acc ρ σ lv Q hl q
   have key := ih (acc ++ [n % 1000003]) (ρ := ρ) (lv := lv) (Q := Q) hl (by rw [List.append_assoc]; exact q)
   rw [List.map_append] at key
   refine ⟨hl, [.int n], rfl, .tt ?_⟩
   delta ce_law_0
   (and_intros)
   exact key
 delta body_law
 refine cut_set fun W1 hW1 => ?_
 (and_intros)
 rw [<- List.map_take]
 refine loop (ns.take 48) [] rfl ?_
 refine hW1 _ _ (cut_ite fun W2 hW2 => ?_)
 generalize hnums : (([] : List Int) ++ (ns.take 48).map (· % 1000003)) = nums
 have hl : nums.length ≤ 48 := by rw [<- hnums, List.nil_append, List.length_map]; exact hml
 by_cases h0 : nums = []
 ·subst h0
  (and_intros)
  exact hW2 _ _ (law_main (nums := [0, 1, 2, 0, 1, 1, 0, 3, 1, 2, 5]) rfl ⟨by decide, by decide⟩)
 ·have e : ¬ (((nums.map V.int).length : Nat) : Int) = 0 := fun e => h0 (List.length_eq_zero_iff.mp (by have := Int.ofNat.inj e; rwa [List.length_map] at this))
  (and_intros)
  exact hW2 _ _ (law_main (nums := nums) rfl ⟨h0, Nat.le_trans hl (by decide)⟩)
end
section
open PySem.W PyProof.Rows
abbrev Pi := List (Addr × Option Addr)
noncomputable def addrs (π : Pi) : List Addr := π.flatMap fun p => p.1 :: p.2.toList
theorem addrs_append (π π' : Pi) : addrs (π ++ π') = addrs π ++ addrs π' := by simp [addrs]
theorem mem_addrs1 {π : Pi} {n : Nat} {a : Addr} {d : Option Addr} (h : π[n]? = some (a, d)) : a ∈ addrs π :=
 List.mem_flatMap.mpr ⟨_, List.mem_of_getElem? h, by simp⟩
theorem mem_addrs2 {π : Pi} {n : Nat} {a d : Addr} (h : π[n]? = some (a, some d)) : d ∈ addrs π :=
 List.mem_flatMap.mpr ⟨_, List.mem_of_getElem? h, by simp⟩
theorem of_mem_addrs {π : Pi} {a : Addr} (h : a ∈ addrs π) : ∃ (n : Nat) (b : Addr) (d : Option Addr), π[n]? = some (b, d) /\ (a = b ∨ d = some a) := by
 obtain ⟨⟨b, d⟩, hm, ha⟩ := List.mem_flatMap.mp h
 obtain ⟨n, hn⟩ := List.mem_iff_getElem?.mp hm
 refine ⟨n, b, d, hn, ?_⟩
 simp only [List.mem_cons, Option.mem_toList] at ha
 rcases ha with h | h
 ·exact .inl h
 ·exact .inr h
structure Gl where
 fn : Fn -> Addr
 cl : Cl -> Addr
 tb : Tb -> Addr
 lst : Addr
noncomputable abbrev tupO (vs : List Value) : Obj := { cls := .type "tuple", data := .seq vs.toArray }
noncomputable abbrev lstO (vs : List Value) (n : Nat) : Obj := { cls := .type "list", data := .seq vs.toArray n }
noncomputable abbrev dicO (es : List DictEntry) (n : Nat) : Obj := { cls := .type "dict", data := .dict es.toArray n }
noncomputable abbrev rngO (lo hi : Int) (t u v : Tok) : Obj := { cls := .type "range", dict := none, data := .fields #[.int lo t, .int hi u, .int 1 v], slots := #[] }
noncomputable def biV (b : Bi) : Value := [.builtin "len", .type "range", .type "tuple", .type "list", .type "str"].getD b .none
inductive VR (G : Gl) (h : Heap) (π : Pi) : V -> Value -> Prop
 | none : VR G h π .none .none
 | bool (b : Bool) : VR G h π (.bool b) (.bool b)
 | int (i : Int) (t : Tok) : VR G h π (.int i) (.int i t)
 | str (s : String) (t : Tok) : VR G h π (.str s) (.str (Str.ofString s) t)
 | tup {a : Addr} {vs : List Value} {l : List V} : h.get? a = some (tupO vs) -> l.length ≤ lim -> l.length = vs.length -> (∀ (i : Nat) (v : V) (x : Value), l[i]? = some v -> vs[i]? = some x -> VR G h π v x) -> VR G h π (.tup l) (.ref a)
 | loc {n : Nat} {a : Addr} {d : Option Addr} : π[n]? = some (a, d) -> VR G h π (.loc n) (.ref a)
 | fn {f : Fn} : f < nFn -> VR G h π (.fn f) (.ref (G.fn f))
 | cls (c : Cl) : VR G h π (.cls c) (.ref (G.cl c))
 | tbl {t : Tb} : t < nTb -> VR G h π (.tbl t) (.ref (G.tb t))
 | bi (b : Bi) : VR G h π (.bi b) (biV b)
 | rng {a : Addr} {lo hi : Int} {t u v : Tok} : h.get? a = some (rngO lo hi t u v) -> fit lo -> fit hi -> VR G h π (.rng lo hi) (.ref a)
 | rol {vs : List Value} {l : List V} {n : Nat} : h.get? G.lst = some (lstO vs n) -> G.lst ∉ addrs π -> vs.length ≤ 1000 -> l.length = vs.length -> (∀ (i : Nat) (v : V) (x : Value), l[i]? = some v -> vs[i]? = some x -> VR G h π v x) -> VR G h π (.rol l) (.ref G.lst)
def VRs (G : Gl) (h : Heap) (π : Pi) (l : List V) (vs : List Value) : Prop := l.length = vs.length /\ ∀ (i : Nat) (v : V) (x : Value), l[i]? = some v -> vs[i]? = some x -> VR G h π v x
inductive TupIs (G : Gl) (h : Heap) (π : Pi) (l : List V) : Value -> Prop
 | mk {a : Addr} {vs : List Value} : h.get? a = some (tupO vs) -> VRs G h π l vs -> l.length ≤ lim -> TupIs G h π l (.ref a)
inductive LocIs (π : Pi) (n : Nat) : Value -> Prop
 | mk {a : Addr} {d : Option Addr} : π[n]? = some (a, d) -> LocIs π n (.ref a)
inductive RngIs (h : Heap) (lo hi : Int) : Value -> Prop
 | mk {a : Addr} {t u v : Tok} : h.get? a = some (rngO lo hi t u v) -> fit lo -> fit hi -> RngIs h lo hi (.ref a)
inductive RolIs (G : Gl) (h : Heap) (π : Pi) (l : List V) (x : Value) : Prop
 | mk {vs : List Value} {n : Nat} : x = .ref G.lst -> h.get? G.lst = some (lstO vs n) -> G.lst ∉ addrs π -> vs.length ≤ 1000 -> VRs G h π l vs -> RolIs G h π l x
def VI (G : Gl) (h : Heap) (π : Pi) (v : V) (x : Value) : Prop := V.casesOn v (x = .none) (fun b => x = .bool b) (fun i => ∃ t, x = .int i t) (fun y => ∃ t, x = .str (Str.ofString y) t) (fun l => TupIs G h π l x) (fun n => LocIs π n x) (fun f => f < nFn /\ x = .ref (G.fn f)) (fun c => x = .ref (G.cl c)) (fun t => t < nTb /\ x = .ref (G.tb t)) (fun b => x = biV b) (fun lo hi => RngIs h lo hi x) (fun l => RolIs G h π l x)
theorem VR.inv {G : Gl} {h : Heap} {π : Pi} {v : V} {x : Value} (r : VR G h π v x) : VI G h π v x := by
 induction r with
 | none => exact rfl
 | bool b => exact rfl
 | int i t => exact ⟨t, rfl⟩
 | str s t => exact ⟨t, rfl⟩
 | tup e hl h1 h2 _ => exact .mk e ⟨h1, h2⟩ hl
 | loc e => exact .mk e
 | fn f => exact ⟨f, rfl⟩
 | cls c => exact rfl
 | tbl t => exact ⟨t, rfl⟩
 | bi b => exact rfl
 | rng e a b => exact .mk e a b
 | rol e m hl h1 h2 _ => exact .mk rfl e m hl ⟨h1, h2⟩
section
variable {G : Gl} {h : Heap} {π : Pi} {l l' : List V} {vs vs' : List Value} {v : V} {x : Value}
theorem no_some {α : Type} {x : α} {p : Prop} (e : none = some x) : p := by cases e
theorem VRs.nil : VRs G h π [] [] := ⟨rfl, fun _ _ _ e _ => no_some e⟩
theorem VRs.cons (a : VR G h π v x) (b : VRs G h π l vs) : VRs G h π (v :: l) (x :: vs) := ⟨congrArg Nat.succ b.1, fun i u y => match i with
 | 0 => fun e f => Option.some.inj e ▸ Option.some.inj f ▸ a
 | i + 1 => b.2 i u y⟩
theorem VRs.uncons (b : VRs G h π (v :: l) vs) : ∃ x vs', vs = x :: vs' /\ VR G h π v x /\ VRs G h π l vs' := by
 cases vs with
 | nil => cases b.1
 | cons x vs => exact ⟨x, vs, rfl, b.2 0 v x rfl rfl, Nat.succ.inj b.1, fun i => b.2 (i + 1)⟩
theorem VRs.unnil (b : VRs G h π [] vs) : vs = [] := List.eq_nil_of_length_eq_zero b.1.symm
theorem VRs.length (b : VRs G h π l vs) : l.length = vs.length := b.1
theorem VRs.get (b : VRs G h π l vs) {i : Nat} (e : l[i]? = some v) : ∃ x, vs[i]? = some x /\ VR G h π v x :=
 have hi : i < vs.length := b.1 ▸ (List.getElem?_eq_some_iff.mp e).1
 ⟨vs[i], List.getElem?_eq_getElem hi, b.2 i v _ e (List.getElem?_eq_getElem hi)⟩
theorem VRs.append (a : VRs G h π l vs) (b : VRs G h π l' vs') : VRs G h π (l ++ l') (vs ++ vs') := ⟨by rw [List.length_append, List.length_append, a.1, b.1], fun i u y e f => by
 rcases Nat.lt_or_ge i l.length with g | g
 ·rw [List.getElem?_append_left g] at e
  rw [List.getElem?_append_left (a.1 ▸ g)] at f
  exact a.2 i u y e f
 ·rw [List.getElem?_append_right g] at e
  rw [List.getElem?_append_right (a.1 ▸ g), <- a.1] at f
  exact b.2 _ u y e f⟩
theorem VRs.drop (a : VRs G h π l vs) (n : Nat) : VRs G h π (l.drop n) (vs.drop n) := ⟨by rw [List.length_drop, List.length_drop, a.1], fun i u y e f => by
 rw [List.getElem?_drop] at e f
 exact a.2 _ u y e f⟩
theorem VRs.take (a : VRs G h π l vs) (n : Nat) : VRs G h π (l.take n) (vs.take n) := ⟨by rw [List.length_take, List.length_take, a.1], fun i u y e f => by
 have hi : i < n := Nat.lt_of_lt_of_le (List.getElem?_eq_some_iff.mp e).1 (List.length_take_le _ _)
 rw [List.getElem?_take_of_lt hi] at e f
 exact a.2 _ u y e f⟩
theorem VRs.reverse (a : VRs G h π l vs) : VRs G h π l.reverse vs.reverse := ⟨by rw [List.length_reverse, List.length_reverse, a.1], fun i u y e f => by
 have hi : i < l.length := by have := (List.getElem?_eq_some_iff.mp e).1; rwa [List.length_reverse] at this
 rw [List.getElem?_reverse hi] at e
 rw [List.getElem?_reverse (a.1 ▸ hi), <- a.1] at f
 exact a.2 _ u y e f⟩
theorem VRs.set (a : VRs G h π l vs) (n : Nat) (q : VR G h π v x) : VRs G h π (l.set n v) (vs.set n x) := ⟨by rw [List.length_set, List.length_set, a.1], fun i u y e f => by
 by_cases g : n = i
 ·subst g
  have h1 : n < l.length := by have := (List.getElem?_eq_some_iff.mp e).1; rwa [List.length_set] at this
  rw [List.getElem?_set_self h1] at e
  rw [List.getElem?_set_self (a.1 ▸ h1)] at f
  cases e; cases f; exact q
 ·rw [List.getElem?_set_ne g] at e f
  exact a.2 i u y e f⟩
theorem VRs.dropLast (x : VRs G h π l vs) : VRs G h π l.dropLast vs.dropLast := by
 rw [List.dropLast_eq_take, List.dropLast_eq_take, x.length]; exact x.take _
theorem VRs.replicate (x : VRs G h π l vs) (n : Nat) : VRs G h π (List.replicate n l).flatten (List.replicate n vs).flatten := by
 induction n with
 | zero => exact .nil
 | succ n ih => rw [List.replicate_succ, List.replicate_succ, List.flatten_cons, List.flatten_cons]; exact x.append ih
theorem VRs.snoc (a : VRs G h π l vs) (b : VR G h π v x) : VRs G h π (l ++ [v]) (vs ++ [x]) := a.append (.cons b .nil)
theorem VR.tup' {a : Addr} (e : h.get? a = some (tupO vs)) (hl : l.length ≤ lim) (r : VRs G h π l vs) : VR G h π (.tup l) (.ref a) := .tup e hl r.1 r.2
end
inductive ER (P : Params) (G : Gl) (h : Heap) (π : Pi) (hash : V -> Int) : List (V × V) -> List DictEntry -> Prop
 | nil : ER P G h π hash [] []
 | cons {k v : V} {x y : Value} {kv : List (V × V)} {es : List DictEntry} : VR G h π k x -> VR G h π v y -> ER P G h π hash kv es -> ER P G h π hash ((k, v) :: kv) (⟨hash k, x, y⟩ :: es)
inductive FR (P : Params) (G : Gl) (h : Heap) (π : Pi) : List (At × V) -> List DictEntry -> Prop
 | nil : FR P G h π [] []
 | cons {n : At} {v : V} {t : Tok} {y : Value} {fs : List (At × V)} {es : List DictEntry} : n < nAt -> VR G h π v y -> FR P G h π fs es ->
   FR P G h π ((n, v) :: fs) (⟨PyData.keyHash P (Str.ofString n.nm), .str (Str.ofString n.nm) t, y⟩ :: es)
mutual
noncomputable def wd : V -> WData
 | .int i => .int i
 | .str s => .str (Str.ofString s)
 | .tup l => .tuple (wds l)
 | _ => .none
noncomputable def wds : List V -> List WData
 | [] => []
 | v :: l => wd v :: wds l
end
noncomputable def hashV (P : Params) (v : V) : Int := hashW P (wd v)
def KeysOk (kv : List (V × V)) : Prop := (kv.map (·.1)).Nodup /\ (∃ k, k ≠ 0 /\ ∀ e ∈ kv, kd e.1 = k)
inductive ORl (G : Gl) (h : Heap) (π : Pi) (l : List V) (p : Addr × Option Addr) : Prop
 | mk {vs : List Value} {n : Nat} : p.2 = none -> l.length ≤ lim -> h.get? p.1 = some (lstO vs n) -> VRs G h π l vs -> ORl G h π l p
inductive ORd (P : Params) (G : Gl) (h : Heap) (π : Pi) (kv : List (V × V)) (p : Addr × Option Addr) : Prop
 | mk {es : List DictEntry} {n : Nat} : p.2 = none -> kv.length ≤ lim -> h.get? p.1 = some (dicO es n) -> ER P G h π (hashV P) kv es -> KeysOk kv -> ORd P G h π kv p
inductive ORi (P : Params) (G : Gl) (h : Heap) (π : Pi) (c : Cl) (fs : List (At × V)) (p : Addr × Option Addr) : Prop
 | mk {d : Addr} {es : List DictEntry} {n : Nat} : p.2 = some d -> h.get? p.1 = some (instObj (G.cl c) d) -> fs.length ≤ 60 /\ c.init.isSome = true -> h.get? d = some (dicO es n) -> FR P G h π fs es -> (fs.map (·.1)).Nodup -> ORi P G h π c fs p
def OR (P : Params) (G : Gl) (h : Heap) (π : Pi) (o : O) (p : Addr × Option Addr) : Prop := O.casesOn o (fun l => ORl G h π l p) (fun kv => ORd P G h π kv p) fun c fs => ORi P G h π c fs p
section
variable {P : Params} {G : Gl} {h : Heap} {π : Pi} {a d : Addr} {n : Nat} {es : List DictEntry}
theorem OR.list {l : List V} {vs : List Value} (z : l.length ≤ lim) (e : h.get? a = some (lstO vs n)) (r : VRs G h π l vs) : OR P G h π (.list l) (a, none) := ORl.mk rfl z e r
theorem OR.dict {kv : List (V × V)} (z : kv.length ≤ lim) (e : h.get? a = some (dicO es n)) (r : ER P G h π (hashV P) kv es) (k : KeysOk kv) : OR P G h π (.dict kv) (a, none) := ORd.mk rfl z e r k
theorem OR.inst {c : Cl} {fs : List (At × V)} (e : h.get? a = some (instObj (G.cl c) d)) (z : fs.length ≤ 60 /\ c.init.isSome = true) (e2 : h.get? d = some (dicO es n)) (r : FR P G h π fs es) (k : (fs.map (·.1)).Nodup) : OR P G h π (.inst c fs) (a, some d) := ORi.mk rfl e z e2 r k
end
structure Inv (P : Params) (G : Gl) (g₀ h : Heap) (σ : St) (π : Pi) : Prop where
 len : π.length = σ.length
 rep : ∀ (n : Nat) o p, σ[n]? = some o -> π[n]? = some p -> OR P G h π o p
 nd : (addrs π).Nodup
 fresh : ∀ a ∈ addrs π, g₀.get? a = none /\ a ≠ 1
 base : ∀ a o, g₀.get? a = some o -> h.get? a = some o
 hi : ∃ a o, 1 < a /\ g₀.get? a = some o
structure Step (h : Heap) (π : Pi) (h' : Heap) (π' : Pi) : Prop where
 pre : ∀ (n : Nat) p, π[n]? = some p -> π'[n]? = some p
 keep : ∀ a o, h.get? a = some o -> a ∉ addrs π -> h'.get? a = some o
 new : ∀ a ∈ addrs π', a ∈ addrs π ∨ h.get? a = none
 cls : ∀ a o, h.get? a = some o -> ∃ o', h'.get? a = some o' /\ o'.cls = o.cls
theorem Step.refl (h : Heap) (π : Pi) : Step h π h π := ⟨fun _ _ e => e, fun _ _ e _ => e, fun _ m => .inl m, fun _ o e => ⟨o, e, rfl⟩⟩
theorem Step.trans {h h' h'' : Heap} {π π' π'' : Pi} (a : Step h π h' π') (b : Step h' π' h'' π'') : Step h π h'' π'' where
 pre := fun n p e => b.pre n p (a.pre n p e)
 keep := fun x o e m => b.keep x o (a.keep x o e m) fun hm => by
  rcases a.new x hm with q | q
  ·exact m q
  ·rw [e] at q; cases q
 new := fun x m => by
  rcases b.new x m with q | q
  ·exact a.new x q
  ·refine .inr ?_
   cases e : h.get? x with
   | none => rfl
   | some o => obtain ⟨o', e', _⟩ := a.cls x o e; rw [e'] at q; cases q
 cls := fun x o e => by
  obtain ⟨o', e', c⟩ := a.cls x o e
  obtain ⟨o'', e'', c'⟩ := b.cls x o' e'
  exact ⟨o'', e'', c'.trans c⟩
section
variable {P : Params} {G : Gl} {g₀ h h' : Heap} {σ σ' : St} {π π' : Pi}
theorem Inv.at (I : Inv P G g₀ h σ π) {n : Nat} {a : Addr} {d : Option Addr} (e : π[n]? = some (a, d)) : ∃ o, σ[n]? = some o /\ OR P G h π o (a, d) := by
 have hn : n < σ.length := by rw [<- I.len]; exact (List.getElem?_eq_some_iff.mp e).1
 exact ⟨σ[n], List.getElem?_eq_getElem hn, I.rep n _ _ (List.getElem?_eq_getElem hn) e⟩
theorem Inv.pos (I : Inv P G g₀ h σ π) {n : Nat} {o : O} (e : σ[n]? = some o) : ∃ a d, π[n]? = some (a, d) /\ OR P G h π o (a, d) := by
 have hn : n < π.length := by rw [I.len]; exact (List.getElem?_eq_some_iff.mp e).1
 exact ⟨π[n].1, π[n].2, List.getElem?_eq_getElem hn, I.rep n _ _ e (List.getElem?_eq_getElem hn)⟩
theorem Inv.cls (I : Inv P G g₀ h σ π) {a : Addr} (m : a ∈ addrs π) : ∃ o, h.get? a = some o /\ o.cls ≠ .type "tuple" /\ o.cls ≠ .type "range" := by
 obtain ⟨n, b, d, e, q⟩ := of_mem_addrs m
 obtain ⟨o, _, r⟩ := I.at e
 have L : ∀ {vs n}, (lstO vs n).cls ≠ .type "tuple" /\ (lstO vs n).cls ≠ .type "range" := ⟨show Value.type "list" ≠ _ by decide, show Value.type "list" ≠ _ by decide⟩
 have D : ∀ {es n}, (dicO es n).cls ≠ .type "tuple" /\ (dicO es n).cls ≠ .type "range" := ⟨show Value.type "dict" ≠ _ by decide, show Value.type "dict" ≠ _ by decide⟩
 have go : ∀ {ob : Obj}, d = none -> h.get? b = some ob -> ob.cls ≠ .type "tuple" /\ ob.cls ≠ .type "range" -> ∃ o, h.get? a = some o /\ o.cls ≠ .type "tuple" /\ o.cls ≠ .type "range" := fun e r c => ⟨_, (q.resolve_right fun z => nomatch e.symm.trans z) ▸ r, c⟩
 cases o with
 | list l => obtain ⟨e1, _, r, _⟩ := (show ORl _ _ _ _ _ from r); exact go e1 r L
 | dict kv => obtain ⟨e1, _, r, _, _⟩ := (show ORd _ _ _ _ _ _ from r); exact go e1 r D
 | inst c fs =>
  obtain ⟨e1, r, _, r2, _, _⟩ := (show ORi _ _ _ _ _ _ _ from r)
  rcases q with rfl | q
  ·exact ⟨_, r, nofun, nofun⟩
  ·cases e1.symm.trans q; exact ⟨_, r2, D⟩
theorem Inv.not_tup (I : Inv P G g₀ h σ π) {a : Addr} {vs : List Value} (e : h.get? a = some (tupO vs)) : a ∉ addrs π := fun m => by
 obtain ⟨o, e', q⟩ := I.cls m
 rw [e] at e'; cases e'
 exact q.1 rfl
theorem Inv.not_rng (I : Inv P G g₀ h σ π) {a : Addr} {lo hi : Int} {t u v : Tok} (e : h.get? a = some (rngO lo hi t u v)) : a ∉ addrs π := fun m => by
 obtain ⟨o, e', q⟩ := I.cls m
 rw [e] at e'; cases e'
 exact q.2 rfl
theorem VR.step (I : Inv P G g₀ h σ π) (S : Step h π h' π') {v : V} {x : Value} (r : VR G h π v x) : VR G h' π' v x := by
 induction r with
 | none => exact .none
 | bool b => exact .bool b
 | int i t => exact .int i t
 | str s t => exact .str s t
 | tup e hl h1 _ ih => exact .tup (S.keep _ _ e (I.not_tup e)) hl h1 ih
 | loc e => exact .loc (S.pre _ _ e)
 | fn f => exact .fn f
 | cls c => exact .cls c
 | tbl t => exact .tbl t
 | bi b => exact .bi b
 | rng e a b => exact .rng (S.keep _ _ e (I.not_rng e)) a b
 | rol e m hl h1 _ ih => exact .rol (S.keep _ _ e m) (fun q => (S.new _ q).elim m fun z => nomatch e.symm.trans z) hl h1 ih
theorem VRs.step (I : Inv P G g₀ h σ π) (S : Step h π h' π') {l : List V} {vs : List Value} (r : VRs G h π l vs) : VRs G h' π' l vs := ⟨r.1, fun i v x e f => (r.2 i v x e f).step I S⟩
theorem ER.step {hash : V -> Int} (I : Inv P G g₀ h σ π) (S : Step h π h' π') {kv : List (V × V)} {es : List DictEntry} (x : ER P G h π hash kv es) : ER P G h' π' hash kv es := by
 induction x with
 | nil => exact .nil
 | cons a b _ ih => exact .cons (a.step I S) (b.step I S) ih
theorem FR.step (I : Inv P G g₀ h σ π) (S : Step h π h' π') {fs : List (At × V)} {es : List DictEntry} (x : FR P G h π fs es) : FR P G h' π' fs es := by
 induction x with
 | nil => exact .nil
 | cons b a _ ih => exact .cons b (a.step I S) ih
theorem OR.step (I : Inv P G g₀ h σ π) (S : Step h π h' π') {o : O} {p : Addr × Option Addr} (x : OR P G h π o p) (k1 : ∀ q, h.get? p.1 = some q -> h'.get? p.1 = some q) (k2 : ∀ b q, p.2 = some b -> h.get? b = some q -> h'.get? b = some q) : OR P G h' π' o p := by
 cases o with
 | list l => obtain ⟨e0, z, e, r⟩ := (show ORl _ _ _ _ _ from x); exact ORl.mk e0 z (k1 _ e) (r.step I S)
 | dict kv => obtain ⟨e0, z, e, r, q⟩ := (show ORd _ _ _ _ _ _ from x); exact ORd.mk e0 z (k1 _ e) (r.step I S) q
 | inst c fs => obtain ⟨e0, e, z, e2, r, q⟩ := (show ORi _ _ _ _ _ _ _ from x); exact ORi.mk e0 (k1 _ e) z (k2 _ _ e0 e2) (r.step I S) q
end
section
variable {P : Params} {G : Gl} {g₀ h h' : Heap} {σ σ' : St} {π π' : Pi}
theorem addrs_apart : ∀ {π : Pi}, (addrs π).Nodup -> ∀ {m n : Nat} {p q : Addr × Option Addr}, π[m]? = some p -> π[n]? = some q -> m ≠ n -> ∀ b, b ∈ p.1 :: p.2.toList -> b ∉ q.1 :: q.2.toList := by
 intro π
 induction π with
 | nil => exact fun _ m n p q e => nomatch e
 | cons x r ih =>
  intro nd m n p q e f ne b hb
  have nn := List.nodup_append.mp (show ((x.1 :: x.2.toList) ++ addrs r).Nodup from nd)
  have mem : ∀ {k : Nat} {z : Addr × Option Addr}, r[k]? = some z -> ∀ c, c ∈ z.1 :: z.2.toList -> c ∈ addrs r := fun e c hc => List.mem_flatMap.mpr ⟨_, List.mem_of_getElem? e, hc⟩
  cases m with
  | zero =>
   cases e
   cases n with
   | zero => exact absurd rfl ne
   | succ n => exact fun hq => nn.2.2 _ hb _ (mem f b hq) rfl
  | succ m =>
   cases n with
   | zero => cases f; exact fun hq => nn.2.2 _ hq _ (mem e b hb) rfl
   | succ n => exact ih nn.2.1 e f (fun z => ne (congrArg Nat.succ z)) b hb
theorem Inv.ext (I : Inv P G g₀ h σ π) (k : ∀ b o, h.get? b = some o -> h'.get? b = some o) : Inv P G g₀ h' σ π /\ Step h π h' π := by
 have S : Step h π h' π := ⟨fun _ _ e => e, fun a o e _ => k a o e, fun _ m => .inl m, fun a o e => ⟨o, k a o e, rfl⟩⟩
 exact ⟨⟨I.len, fun n o p e f => (I.rep n o p e f).step I S (fun q e => k _ _ e) (fun b q _ e => k _ _ e), I.nd, I.fresh, fun a o e => k _ _ (I.base a o e), I.hi⟩, S⟩
theorem Inv.none_base (I : Inv P G g₀ h σ π) {a : Addr} (e : h.get? a = none) : g₀.get? a = none := by
 cases q : g₀.get? a with
 | none => rfl
 | some o => rw [I.base a o q] at e; cases e
theorem Inv.big (I : Inv P G g₀ h σ π) {a : Addr} (n : h.objs.size ≤ a) : a ≠ 1 := fun e => by
 obtain ⟨b, o, h1, h2⟩ := I.hi
 have h3 := Heap.lt_size (I.base _ _ h2)
 rw [e] at n
 exact absurd (Nat.lt_of_lt_of_le h3 n) (Nat.not_lt.mpr (Nat.le_of_lt h1))
theorem Inv.none_addr (I : Inv P G g₀ h σ π) {a : Addr} (e : h.get? a = none) : a ∉ addrs π := fun m => by
 obtain ⟨o, q, _⟩ := I.cls m
 rw [e] at q; cases q
theorem step_snoc {p : Addr × Option Addr} (k : ∀ b o, h.get? b = some o -> h'.get? b = some o) (n : ∀ a ∈ p.1 :: p.2.toList, h.get? a = none) : Step h π h' (π ++ [p]) :=
 ⟨fun n p e => by rw [List.getElem?_append_left (List.getElem?_eq_some_iff.mp e).1]; exact e, fun a o e _ => k a o e, fun a m => by
  rw [addrs_append] at m
  exact (List.mem_append.mp m).imp id fun m => n a (by rwa [show addrs [p] = p.1 :: p.2.toList from List.append_nil _] at m), fun a o e => ⟨o, k a o e, rfl⟩⟩
theorem Inv.alloc (I : Inv P G g₀ h σ π) {p : Addr × Option Addr} {o : O} (k : ∀ b o, h.get? b = some o -> h'.get? b = some o) (n' : ∀ a ∈ p.1 :: p.2.toList, h.get? a = none /\ a ≠ 1) (nd : (p.1 :: p.2.toList).Nodup)
  (r : Step h π h' (π ++ [p]) -> OR P G h' (π ++ [p]) o p) : Inv P G g₀ h' (σ ++ [o]) (π ++ [p]) /\ Step h π h' (π ++ [p]) := by
 have n := fun a ha => (n' a ha).1
 have S := step_snoc (π := π) k n
 have ea : addrs (π ++ [p]) = addrs π ++ (p.1 :: p.2.toList) := by rw [addrs_append]; exact congrArg (addrs π ++ ·) (List.append_nil _)
 refine ⟨⟨by rw [List.length_append, List.length_append, I.len]; rfl, fun m q z e f => ?_, ?_, fun a m => ?_, fun a o e => k _ _ (I.base a o e), I.hi⟩, S⟩
 ·rcases snoc_at e with e | ⟨rfl, e'⟩
  ·rw [List.getElem?_append_left (I.len.symm ▸ len_of e)] at f
   exact (I.rep m q z e f).step I S (fun q e => k _ _ e) (fun b q _ e => k _ _ e)
  ·rw [<- I.len] at f
   rw [e', Option.some.inj (f.symm.trans List.getElem?_concat_length)]
   exact r S
 ·rw [ea]
  exact List.nodup_append.mpr ⟨I.nd, nd, fun a ha b hb e => I.none_addr (n b hb) (e ▸ ha)⟩
 ·rw [ea] at m
  exact (List.mem_append.mp m).elim (I.fresh a) fun m => ⟨I.none_base (n a m), (n' a m).2⟩
theorem Inv.upd (I : Inv P G g₀ h σ π) {n : Nat} {p : Addr × Option Addr} {b : Addr} {o o₀ : O} {ob ob' : Obj} (e : π[n]? = some p) (hb : b ∈ p.1 :: p.2.toList) (hs : σ[n]? = some o₀)
  (other : ∀ c, c ≠ b -> h'.get? c = h.get? c) (e0 : h.get? b = some ob) (e1 : h'.get? b = some ob') (ec : ob'.cls = ob.cls) (r : Step h π h' π -> OR P G h' π o p) :
  Inv P G g₀ h' (σ.set n o) π /\ Step h π h' π := by
 have mb : b ∈ addrs π := List.mem_flatMap.mpr ⟨_, List.mem_of_getElem? e, hb⟩
 have S : Step h π h' π := ⟨fun _ _ e => e, fun a o q m => (other a (fun z => m (z ▸ mb))).trans q, fun _ m => .inl m, fun a o q => by
  by_cases z : a = b
  ·subst z; rw [e0] at q; cases q; exact ⟨_, e1, ec⟩
  ·exact ⟨o, (other a z).trans q, rfl⟩⟩
 refine ⟨⟨by rw [List.length_set]; exact I.len, fun m q z f g => ?_, I.nd, I.fresh, fun a o q => (other a (fun z => ?_)).trans (I.base a o q), I.hi⟩, S⟩
 ·by_cases hm : m = n
  ·subst hm
   rw [e] at g; cases g
   rw [List.getElem?_set_self (List.getElem?_eq_some_iff.mp hs).1] at f
   cases f
   exact r S
  ·rw [List.getElem?_set_ne (fun z => hm z.symm)] at f
   have ap := addrs_apart I.nd g e hm
   refine (I.rep m q z f g).step I S (fun q eq => (other _ (fun e => ap z.1 (.head _) (by rw [e]; exact hb))).trans eq) (fun b' q hd eq => (other b' (fun e => ap b' (.tail _ (by rw [hd]; exact .head _)) (by rw [e]; exact hb))).trans eq)
 ·rw [z, (I.fresh b mb).1] at q; cases q
end
def Same (s s' : Shared) : Prop := s'.gens = s.gens /\ s'.os = s.os
theorem Same.refl (s : Shared) : Same s s := ⟨rfl, rfl⟩
theorem Same.trans {a b c : Shared} (x : Same a b) (y : Same b c) : Same a c := ⟨y.1.trans x.1, y.2.trans x.2⟩
abbrev Kont (P : Params) (G : Gl) (g₀ : Heap) (s : Shared) (π : Pi) (Q : Post) (Qc : Value -> Shared -> Prop) : Prop :=
 ∀ v σ' s' π' x, Q v σ' -> Inv P G g₀ s'.heap σ' π' -> Step s.heap π s'.heap π' -> Same s s' -> VR G s'.heap π' v x -> Qc x s'
abbrev KontL (P : Params) (G : Gl) (g₀ : Heap) (s : Shared) (π : Pi) (Q : List V -> St -> Prop) (Qc : List Value -> Shared -> Prop) : Prop :=
 ∀ v σ' s' π' x, Q v σ' -> Inv P G g₀ s'.heap σ' π' -> Step s.heap π s'.heap π' -> Same s s' -> VRs G s'.heap π' v x -> Qc x s'
abbrev KontU (P : Params) (G : Gl) (g₀ : Heap) (s : Shared) (π : Pi) (Q : St -> Prop) (Qc : Shared -> Prop) : Prop :=
 ∀ σ' s' π', Q σ' -> Inv P G g₀ s'.heap σ' π' -> Step s.heap π s'.heap π' -> Same s s' -> Qc s'
section
variable {P : Params} {G : Gl} {g₀ : Heap} {s s' : Shared} {π π' : Pi} {Q : Post} {Qc : Value -> Shared -> Prop}
theorem Kont.next (k : Kont P G g₀ s π Q Qc) (S : Step s.heap π s'.heap π') (z : Same s s') : Kont P G g₀ s' π' Q Qc :=
 fun v σ' s'' π'' x q I S' z' r => k v σ' s'' π'' x q I (S.trans S') (z.trans z') r
theorem KontL.next {Q : List V -> St -> Prop} {Qc : List Value -> Shared -> Prop} (k : KontL P G g₀ s π Q Qc) (S : Step s.heap π s'.heap π') (z : Same s s') : KontL P G g₀ s' π' Q Qc :=
 fun v σ' s'' π'' x q I S' z' r => k v σ' s'' π'' x q I (S.trans S') (z.trans z') r
theorem KontU.next {Q : St -> Prop} {Qc : Shared -> Prop} (k : KontU P G g₀ s π Q Qc) (S : Step s.heap π s'.heap π') (z : Same s s') : KontU P G g₀ s' π' Q Qc :=
 fun σ' s'' π'' q I S' z' => k σ' s'' π'' q I (S.trans S') (z.trans z')
end
end
section
open PySem.W PyProof.Rows PySem.Calls
def Roomy (A : Around) : Prop := A.handled = none /\ A.units + 200 < cLine
section
variable {prog : Program} {w : World} {G : Gl} {g₀ : Heap} {A : Around} {E : Value -> Shared -> Prop} {s : Shared} {σ : St} {π : Pi} {Q : Post} {Qc : Value -> Shared -> Prop}
theorem none_size (h : Heap) : h.get? h.objs.size = none := by
 cases e : h.get? h.objs.size with
 | none => rfl
 | some o => exact absurd (Heap.lt_size e) (Nat.lt_irrefl _)
theorem Inv.none_size' {P : Params} {G : Gl} {g₀ h : Heap} {σ : St} {π : Pi} (I : Inv P G g₀ h σ π) {a : Addr} (n : h.objs.size ≤ a) : h.get? a = none /\ a ≠ 1 := by
 refine ⟨?_, I.big n⟩
 cases e : h.get? a with
 | none => rfl
 | some o => exact absurd (Heap.lt_size e) (Nat.not_lt.mpr n)
theorem Kont.here (k : Kont w.params G g₀ s π Q Qc) (I : Inv w.params G g₀ s.heap σ π) {v : V} {x : Value} (q : Q v σ) (r : VR G s.heap π v x) (t : Nat) : Qc x { s with toks := t } :=
 k v σ { s with toks := t } π x q I (Step.refl _ _) ⟨rfl, rfl⟩ r
theorem Kont.now (k : Kont w.params G g₀ s π Q Qc) (I : Inv w.params G g₀ s.heap σ π) {v : V} {x : Value} (q : Q v σ) (r : VR G s.heap π v x) : Qc x s :=
 k v σ s π x q I (Step.refl _ _) ⟨rfl, rfl⟩ r
theorem Kont.ext (k : Kont w.params G g₀ s π Q Qc) (I : Inv w.params G g₀ s.heap σ π) {v : V} {x : Value} {h' : Heap} {t : Nat} (q : Q v σ) (e : ∀ b o, s.heap.get? b = some o -> h'.get? b = some o)
  (r : Step s.heap π h' π -> VR G h' π v x) : Qc x { s with heap := h', toks := t } := by
 obtain ⟨I', S⟩ := I.ext e
 exact k v σ { s with heap := h', toks := t } π x q I' S ⟨rfl, rfl⟩ (r S)
theorem Kont.pushTup (k : Kont w.params G g₀ s π Q Qc) (I : Inv w.params G g₀ s.heap σ π) {l : List V} {vs : List Value} (q : Q (.tup l) σ) (hl : l.length ≤ lim) (r : VRs G s.heap π l vs) (t : Nat) :
  Qc (.ref s.heap.objs.size) { s with heap := s.heap.push (tupO vs), toks := t } :=
 k.ext I q (fun b o e => Heap.get?_push_of_some _ e) fun S => .tup' (Heap.get?_push_size _ rfl) hl (r.step I S)
theorem Kont.newList (k : Kont w.params G g₀ s π Q Qc) (I : Inv w.params G g₀ s.heap σ π) {l : List V} {vs : List Value} {h' : Heap} {a : Addr} {t n : Nat} (q : Q (.loc σ.length) (σ ++ [.list l]))
  (e : ∀ b o, s.heap.get? b = some o -> h'.get? b = some o) (na : s.heap.get? a = none /\ a ≠ 1) (ha : h'.get? a = some (lstO vs n)) (hl : l.length ≤ lim) (r : VRs G s.heap π l vs) :
  Qc (.ref a) { s with heap := h', toks := t } := by
 obtain ⟨I', S⟩ := I.alloc (p := (a, none)) (o := .list l) e (List.forall_mem_cons.mpr ⟨na, nofun⟩) (List.nodup_cons.mpr ⟨List.not_mem_nil, List.nodup_nil⟩) (fun S => .list hl ha (r.step I S))
 exact k _ _ { s with heap := h', toks := t } _ _ q I' S ⟨rfl, rfl⟩ (.loc (a := a) (d := none) (I.len ▸ List.getElem?_concat_length))
abbrev V1 (G : Gl) (h : Heap) (π : Pi) (vs : List V) (x : Value) : Prop := List.casesOn vs False fun a _ => VR G h π a x
abbrev V2 (G : Gl) (h : Heap) (π : Pi) (vs : List V) (y x : Value) : Prop := List.casesOn vs False fun b t => List.casesOn t False fun a _ => VR G h π b y /\ VR G h π a x
theorem VR.int_inv {h : Heap} {i : Int} {x : Value} (r : VR G h π (.int i) x) : ∃ t, x = .int i t := r.inv
theorem int2 {h : Heap} {i j : Int} {us : List V} {y x : Value} {M : Value -> Value -> Prop} (r : V2 G h π (.int j :: .int i :: us) y x) (q : ∀ t u, M (.int j u) (.int i t)) : M y x := by
 obtain ⟨t, e⟩ := r.1.int_inv
 obtain ⟨u, e'⟩ := r.2.int_inv
 rw [e, e']; exact q _ _
theorem VR.tup_is {h : Heap} {l : List V} {x : Value} (r : VR G h π (.tup l) x) : TupIs G h π l x := r.inv
theorem VR.loc_is {h : Heap} {n : Nat} {x : Value} (r : VR G h π (.loc n) x) : LocIs π n x := r.inv
theorem VR.rng_is {h : Heap} {a b : Int} {x : Value} (r : VR G h π (.rng a b) x) : RngIs h a b x := r.inv
theorem VR.rol_is {h : Heap} {l : List V} {x : Value} (r : VR G h π (.rol l) x) : RolIs G h π l x := r.inv
theorem VR.str_inv {h : Heap} {y : String} {x : Value} (r : VR G h π (.str y) x) : ∃ t, x = .str (Str.ofString y) t := r.inv
theorem VR.none_inv {h : Heap} {x : Value} (r : VR G h π .none x) : x = .none := r.inv
theorem VR.tbl_inv {h : Heap} {t : Tb} {x : Value} (r : VR G h π (.tbl t) x) : t < nTb /\ x = .ref (G.tb t) := r.inv
inductive LAt (G : Gl) (h : Heap) (π : Pi) (n : Nat) (l : List V) : Value -> Prop
 | mk {a : Addr} {vs : List Value} {k : Nat} : π[n]? = some (a, none) -> l.length ≤ lim -> h.get? a = some (lstO vs k) -> VRs G h π l vs -> LAt G h π n l (.ref a)
inductive DAt (P : Params) (G : Gl) (h : Heap) (π : Pi) (n : Nat) (kv : List (V × V)) : Value -> Prop
 | mk {a : Addr} {es : List DictEntry} {k : Nat} : π[n]? = some (a, none) -> kv.length ≤ lim -> h.get? a = some (dicO es k) -> ER P G h π (hashV P) kv es -> KeysOk kv -> DAt P G h π n kv (.ref a)
inductive IAt (P : Params) (G : Gl) (h : Heap) (π : Pi) (n : Nat) (c : Cl) (fs : List (At × V)) : Value -> Prop
 | mk {a d : Addr} {es : List DictEntry} {k : Nat} : π[n]? = some (a, some d) -> h.get? a = some (instObj (G.cl c) d) -> fs.length ≤ 60 /\ c.init.isSome = true -> h.get? d = some (dicO es k) -> FR P G h π fs es -> (fs.map (·.1)).Nodup -> IAt P G h π n c fs (.ref a)
theorem Inv.list (I : Inv w.params G g₀ s.heap σ π) {n : Nat} {l : List V} {x : Value} (r : VR G s.heap π (.loc n) x) (e : σ[n]? = some (.list l)) : LAt G s.heap π n l x := by
 induction r.loc_is with
 | mk p =>
  obtain ⟨e0, z, e, r⟩ := (show ORl _ _ _ _ _ from I.rep n _ _ e p)
  cases e0; exact .mk p z e r
theorem Inv.dict (I : Inv w.params G g₀ s.heap σ π) {n : Nat} {kv : List (V × V)} {x : Value} (r : VR G s.heap π (.loc n) x) (e : σ[n]? = some (.dict kv)) : DAt w.params G s.heap π n kv x := by
 induction r.loc_is with
 | mk p =>
  obtain ⟨e0, z, e, r, q⟩ := (show ORd _ _ _ _ _ _ from I.rep n _ _ e p)
  cases e0; exact .mk p z e r q
theorem Inv.inst (I : Inv w.params G g₀ s.heap σ π) {n : Nat} {c : Cl} {fs : List (At × V)} {x : Value} (r : VR G s.heap π (.loc n) x) (e : σ[n]? = some (.inst c fs)) : IAt w.params G s.heap π n c fs x := by
 induction r.loc_is with
 | mk p =>
  obtain ⟨e0, e1, z, e2, r, q⟩ := (show ORi _ _ _ _ _ _ _ from I.rep n _ _ e p)
  cases e0; exact .mk p e1 z e2 r q
theorem lim_le : lim ≤ sizeLine := by rw [sizeLine_eq]; decide
theorem fold_flat (n : Nat) (vs : List Value) (acc : Array Value) : List.foldl (fun x1 x2 => x1 ++ x2) acc (List.replicate n vs.toArray) = acc ++ (List.replicate n vs).flatten.toArray := by
 induction n generalizing acc with
 | zero => simp
 | succ n ih => rw [List.replicate_succ, List.foldl_cons, ih]; simp [List.replicate_succ]
theorem tuple___mul___zero (l : Addr) (items : Array Value) (u : Tok) (h0 : items.isEmpty = false) :
  Meets (Builtin.«tuple.__mul__» ⟨[.ref l, .int 0 u], []⟩) (fun _ R s => s.heap.get? l = some { cls := .type "tuple", dict := none, data := .seq items, slots := #[] } /\ R (.ok (.ret (.ref s.heap.objs.size))) { s with heap := s.heap.push { cls := .type "tuple", data := .seq #[] } }) :=
 .of_wp fun prog w A R s h => by
  obtain ⟨hp, g, d, tk, os⟩ := s; obtain ⟨hl, h⟩ := h
  wp_walk
  exact ⟨_, rfl, h⟩
theorem noFill_tuple_mul : fillsNumberSlot (.type "tuple") "mul" = pure false :=
 PySem.fillsNumberSlot_seq (id := "tuple.__mul__") (r := some (.builtin "tuple.__rmul__")) PySem.F.slot_tuple_mul.lookup (by decide +kernel) PySem.F.slot_tuple_rmul.lookup (by decide +kernel)
theorem repeat_tuple : seqRepeat? (.type "tuple") = pure (some (.builtin "tuple.__mul__")) := by
 unfold seqRepeat?
 rw [PySem.seqSlot_of (T := "tuple") (name := "__mul__") (id := "tuple.__mul__") PySem.F.slot_tuple_mul.lookup (by decide +kernel), PySem.seqSlot_of (T := "tuple") (name := "__rmul__") (id := "tuple.__rmul__") PySem.F.slot_tuple_rmul.lookup (by decide +kernel)]
 rfl
theorem int___rmul___int_tuple (a : Int) (t : Tok) (l : Addr) (items : Array Value) :
  Meets (Builtin.«int.__rmul__» ⟨[.int a t, .ref l], []⟩) (fun _ R s => s.heap.get? l = some { cls := .type "tuple", dict := none, data := .seq items, slots := #[] } /\ R (.ok (.ret Value.notImplemented)) s) :=
 .of_wp fun prog w A R s h => by obtain ⟨hp, g, d, tk, os⟩ := s; obtain ⟨hl, h⟩ := h; wp_walk; exact ⟨_, rfl, h⟩
end
section
variable {prog : Program} {w : World} {G : Gl} {g₀ : Heap} {A : Around} {E : Value -> Shared -> Prop} {s : Shared} {σ : St} {π : Pi} {Q : Post} {Qc : Value -> Shared -> Prop}
theorem mulok {i j : Int} (h : fit i) : IntMulOk i j := by
 unfold fit at h
 exact IntMulOk.of_left (intBits_le_64 (by have := h.1; simp [big] at this; omega) (by have := h.2; simp [big] at this; omega))
variable {K : Kt} {ρ : Fr} {us : List V}
theorem binOK (hA : Roomy A) {op : Operator} {vs : List V} {x y : Value} (q : BinW op K ρ σ vs) (I : Inv w.params G g₀ s.heap σ π) (r2 : V2 G s.heap π vs y x) (k : Kont w.params G g₀ s π (fun v σ' => K ρ σ' (v :: vs.tail.tail)) Qc) :
  wpAny (model prog w) A (binaryOp op x y) Qc E s := by
 induction q with
 | add q => induction q with
  | int q =>
   refine int2 r2 (M := fun y x => wpAny (model prog w) A (binaryOp .Add x y) Qc E s) fun t u => ?_
   exact PyProof.Rows.add_int (k.here I q (.int _ _) _)
  | cat hl q =>
   obtain ⟨r3, r4⟩ := r2
   induction r4.tup_is with | @mk a vs e r hl1 =>
   induction r3.tup_is with | @mk b ws e' r' hl2 =>
   have hl := Nat.le_of_ble_eq_true hl
   by_cases h1 : vs.toArray.isEmpty = true
   ·have : vs = [] := by simpa using h1
    subst this
    rw [List.eq_nil_of_length_eq_zero r.1] at q
    exact concat_meets ⟨_, e, rfl⟩ ⟨_, e', rfl⟩ noFill_tuple_add seq_tuple_add PySem.F.slot_tuple_add PySem.F.entry_tuple_add (PySem.F.args_tuple_add_2 _ _) (AutoSeq1.tuple___add___tuple_tuple_0 a _ 0 b _ 0 h1)
     ⟨e, e', k.now I q (.tup' e' hl2 r')⟩
   by_cases h2 : ws.toArray.isEmpty = true
   ·have : ws = [] := by simpa using h2
    subst this
    rw [List.eq_nil_of_length_eq_zero r'.1, List.append_nil] at q
    exact concat_meets ⟨_, e, rfl⟩ ⟨_, e', rfl⟩ noFill_tuple_add seq_tuple_add PySem.F.slot_tuple_add PySem.F.entry_tuple_add (PySem.F.args_tuple_add_2 _ _) (AutoSeq1.tuple___add___tuple_tuple_1 a _ 0 b _ 0 h1 h2)
     ⟨e, e', k.now I q (.tup' e hl1 r)⟩
   ·refine PySem.P.add_tuple (n := 0) (n2 := 0) e e' h1 h2 ?_ (Nat.le_trans ?_ lim_le)
    ·rw [show vs.toArray ++ ws.toArray = (vs ++ ws).toArray from by simp]
     exact k.pushTup I q hl (r.append r') _
    ·exact Nat.le_trans (Nat.le_of_eq (List.length_append.symm.trans (r.append r').1.symm)) hl
  | catL hx hy hl q =>
   obtain ⟨r3, r4⟩ := r2
   induction I.list r4 hx with | @mk a vs n1 p _ e r =>
   induction I.list r3 hy with | @mk b ws n2 p' _ e' r' =>
   have hl := Nat.le_of_ble_eq_true hl
   refine PySem.P.add_list (n := n1) (n2 := n2) e e' ?_ (Nat.le_trans ?_ lim_le)
   ·rw [show vs.toArray ++ ws.toArray = (vs ++ ws).toArray from by simp]
    exact k.newList I q (fun b o e => Heap.get?_push_of_some _ e) (I.none_size' (Nat.le_refl _)) (Heap.get?_push_size _ rfl) hl (r.append r')
   ·exact Nat.le_trans (Nat.le_of_eq (List.length_append.symm.trans (r.append r').1.symm)) hl
 | sub q =>
  refine int2 r2 (M := fun y x => wpAny (model prog w) A (binaryOp .Sub x y) Qc E s) fun t u => ?_
  exact PyProof.Rows.sub_int' (k.here I q (.int _ _) _)
 | mod h0 q =>
  refine int2 r2 (M := fun y x => wpAny (model prog w) A (binaryOp .Mod x y) Qc E s) fun t u => ?_
  have h0 := of_decide_eq_true h0
  refine PyProof.Rows.mod_int' (Int.ne_of_gt h0) ?_
  rw [Int.fmod_eq_emod_of_nonneg _ (Int.le_of_lt h0)]
  exact k.here I q (.int _ _) _
 | div h0 h1 q =>
  refine int2 r2 (M := fun y x => wpAny (model prog w) A (binaryOp .FloorDiv x y) Qc E s) fun t u => ?_
  have h0 := of_decide_eq_true h0
  have h1 := of_decide_eq_true h1
  refine PyProof.Rows.floordiv_int (Int.ne_of_gt h0) ?_ (.inl ?_)
  ·rw [Int.fdiv_eq_ediv_of_nonneg _ (Int.le_of_lt h0)]
   exact k.here I q (.int _ _) _
  ·exact PyProof.noPylong_small (by omega)
 | and ha hb hr q =>
  subst ha hb hr
  refine int2 r2 (M := fun y x => wpAny (model prog w) A (binaryOp .BitAnd x y) Qc E s) fun t u => ?_
  refine PyProof.Rows.and_int ?_
  rename_i i j _
  have e : Builtin.bitAnd (i : Int) (j : Int) = ((i &&& j : Nat) : Int) := by
   unfold Builtin.bitAnd
   simp
  rw [e]
  exact k.here I q (.int _ _) _
 | mul q => induction q with
  | int hf q =>
   refine int2 r2 (M := fun y x => wpAny (model prog w) A (binaryOp .Mult x y) Qc E s) fun t u => ?_
   exact PyProof.Rows.mul_int (k.here I q (.int _ _) _) (mulok hf)
  | list hx hi h1 h3 h2 q =>
   subst hi
   rename_i m n x _
   obtain ⟨r3, r4⟩ := r2
   obtain ⟨u, rfl⟩ := r3.int_inv
   induction I.list r4 hx with | @mk a vs n1 p _ e r =>
   have hl := r.length
   have h1 := Nat.le_of_ble_eq_true h1
   have h3 := Nat.le_of_ble_eq_true h3
   rw [hl] at h3
   have h1 : n ≤ 100000 := h1
   have key : ∀ x : Int, x.toNat = n -> 0 ≤ x -> wpAny (model prog w) A (binaryOp .Mult (.ref a) (.int x u)) Qc E s := by
    intro x hx h0
    have hm : vs.toArray.size * x.toNat ≤ 1000000 := by rw [hx]; exact Nat.le_trans (Nat.mul_le_mul h3 h1) (by decide)
    have f0 : ¬vs.toArray.size * x.toNat > (2 ^ 63 - 1) / 8 := fun g => by have := Nat.lt_of_lt_of_le g hm; omega
    have f1 : ¬(!Builtin.List.listFitsIndex x) = true := by
     have : x ≤ 100000 := by omega
     clear hm f0; simp [Builtin.List.listFitsIndex]; omega
    have f2 : ¬Builtin.List.listTooLong (vs.toArray.size * x.toNat) = true := by
     generalize vs.toArray.size * x.toNat = z at hm ⊢
     simp [Builtin.List.listTooLong, sizeLine]; omega
    refine wpAny_binaryOp_repeat_ref (T := "list") (U := "int") (by decide) ⟨_, e, rfl⟩ (fun s' => typeIs_int s' x u) noFill_list_mul PySem.F.fills_int_mul PySem.F.slot_int_rmul repeat_list PySem.F.slot_int_index.lookup
     (call_meets PySem.F.slot_int_rmul (typeIs_int s x u) PySem.F.entry_int_rmul (PySem.F.args_int_rmul_2 _ _) (int___rmul___int_list x u a vs.toArray n1)
      ⟨e, rfl, ⟨_, e, rfl⟩, call_meets PySem.F.slot_list_mul ⟨_, e, rfl⟩ PySem.F.entry_list_mul (PySem.F.args_list_mul_2 _ _)
       (AutoListH.list___mul___list_int_3 a vs.toArray n1 x u f1 f0 f2)
       ⟨e, ?_⟩⟩)
    have e2 : List.foldl (fun x1 x2 => x1 ++ x2) #[] (List.replicate (if vs.toArray.isEmpty = true then 0 else x.toNat) vs.toArray) = (List.replicate n vs).flatten.toArray := by
     rw [fold_flat, hx]
     split
     ·rename_i hz
      have : vs = [] := by simpa using hz
      subst this
      simp
     ·simp
    rw [e2]
    exact k.newList I q (fun b o e => Heap.get?_push_of_some _ e) (I.none_size' (Nat.le_refl _)) (Heap.get?_push_size _ rfl) (Nat.le_of_ble_eq_true h2) (r.replicate _)
   exact key n rfl (Int.natCast_nonneg n)
  | tup q =>
   obtain ⟨r3, r4⟩ := r2
   obtain ⟨u, rfl⟩ := r3.int_inv
   induction r4.tup_is with | @mk a vs e r _ =>
   obtain ⟨x, vs', rfl, _, _⟩ := r.uncons
   exact wpAny_binaryOp_repeat_ref (T := "tuple") (U := "int") (by decide) ⟨_, e, rfl⟩ (fun s' => typeIs_int s' 0 u) noFill_tuple_mul PySem.F.fills_int_mul PySem.F.slot_int_rmul repeat_tuple PySem.F.slot_int_index.lookup
     (call_meets PySem.F.slot_int_rmul (typeIs_int s 0 u) PySem.F.entry_int_rmul (PySem.F.args_int_rmul_2 _ _) (int___rmul___int_tuple 0 u a _)
      ⟨e, rfl, ⟨_, e, rfl⟩, call_meets PySem.F.slot_tuple_mul ⟨_, e, rfl⟩ PySem.F.entry_tuple_mul (PySem.F.args_tuple_mul_2 _ _) (tuple___mul___zero a _ u rfl) ⟨e, k.pushTup I q (Nat.zero_le _) .nil _⟩⟩)
end
theorem strOk_ofString (a : String) : PyData.strOk (Str.ofString a) = true := by
 rw [Str.ofString_eq_toList]
 unfold PyData.strOk
 simp only [List.all_toArray, List.all_map, List.all_eq_true]
 intro c _
 simp only [Function.comp_apply, decide_eq_true_eq]
 have h := c.valid
 simp only [UInt32.isValidChar, Nat.isValidChar] at h
 show c.val.toNat < _
 omega
inductive PR (h : Heap) : Nat -> V -> Value -> Prop
 | none {n : Nat} : PR h n .none .none
 | int {n : Nat} (i : Int) (t : Tok) : PR h n (.int i) (.int i t)
 | str {n : Nat} {y : Str} {x : String} {t : Tok} : y = Str.ofString x -> PR h n (.str x) (.str y t)
 | tup {n : Nat} {a : Addr} {vs : List Value} {l : List V} : h.get? a = some (tupO vs) -> l.length ≤ lim -> l.length = vs.length -> (∀ (i : Nat) (v : V) (x : Value), l[i]? = some v -> vs[i]? = some x -> PR h n v x) -> PR h (n + 1) (.tup l) (.ref a)
theorem zipInd {M : V -> Value -> Prop} {C : List V -> List Value -> Prop} (z : C [] []) (c : ∀ v x l vs, M v x -> C l vs -> C (v :: l) (x :: vs)) {l : List V} : ∀ {vs : List Value}, l.length = vs.length -> (∀ (i : Nat) (v : V) (x : Value), l[i]? = some v -> vs[i]? = some x -> M v x) -> C l vs := by
 induction l with
 | nil => intro vs e _; rw [List.eq_nil_of_length_eq_zero e.symm]; exact z
 | cons v l ih =>
  intro vs e m
  cases vs with
  | nil => cases e
  | cons x vs => exact c v x l vs (m 0 v x rfl rfl) (ih (Nat.succ.inj e) fun i => m (i + 1))
section
variable {G : Gl} {h h' : Heap} {π : Pi}
theorem VR.pure {v : V} {x : Value} (r : VR G h π v x) : ∀ {n : Nat}, pureN n v = true -> PR h n v x := by
 induction r with
 | none => exact fun _ => .none
 | int i t => exact fun _ => .int i t
 | str s t => exact fun _ => .str rfl
 | tup e hl h1 _ ih =>
  intro n p
  obtain ⟨m, rfl, p2⟩ := pure_tup p
  exact .tup e hl h1 fun i v x e f => ih i v x e f (p2 v (List.mem_of_getElem? e))
 | _ => intro n p; cases n <;> exact Bool.noConfusion p
theorem PR.vr {n : Nat} {v : V} {x : Value} (r : PR h n v x) : VR G h π v x := by
 induction r with
 | none => exact .none
 | int i t => exact .int i t
 | str e => subst e; exact .str _ _
 | tup e hl h1 _ ih => exact .tup e hl h1 ih
theorem PR.same (k : ∀ a vs, h.get? a = some (tupO vs) -> h'.get? a = some (tupO vs)) {n : Nat} {v : V} {x : Value} (r : PR h n v x) : PR h' n v x := by
 induction r with
 | none => exact .none
 | int i t => exact .int i t
 | str e => exact .str e
 | tup e hl h1 _ ih => exact .tup (k _ _ e) hl h1 ih
theorem PR.inj {n : Nat} {u : V} {x : Value} (r : PR h n u x) : ∀ {m : Nat} {v : V}, PR h m v x -> u = v := by
 induction r with
 | none => intro m v r; cases r; rfl
 | int i t => intro m v r; cases r; rfl
 | str e => intro m v r; cases r with
  | str e' => rw [ofString_inj (e.symm.trans e')]
 | tup e hl h1 _ ih =>
  intro m v r
  cases r with
  | tup e' hl' h1' q' =>
   rename_i vs l _ m vs' l'
   have hv : vs = vs' := by
    have := Option.some.inj (e.symm.trans e')
    injection this with _ _ h3
    injection h3 with h3
    exact List.toArray_inj h3
   subst hv
   refine congrArg V.tup (List.ext_getElem? fun i => ?_)
   rcases Nat.lt_or_ge i l.length with g | g
   ·have g' : i < l'.length := by rwa [h1', <- h1]
    rw [List.getElem?_eq_getElem g, List.getElem?_eq_getElem g']
    exact congrArg some (ih i _ vs[i] (List.getElem?_eq_getElem g) (List.getElem?_eq_getElem (h1 ▸ g)) (q' i _ _ (List.getElem?_eq_getElem g') (List.getElem?_eq_getElem (h1 ▸ g))))
   ·rw [List.getElem?_eq_none g, List.getElem?_eq_none (by rw [h1', <- h1]; exact g)]
theorem PR.reads {n : Nat} {v : V} {x : Value} (r : PR h n v x) : (∃ as, Reads h x (pd v) as) /\ (pd v).canLay0 = true /\ (pd v).depth ≤ n := by
 induction r with
 | none => exact ⟨⟨_, .none⟩, rfl, Nat.zero_le _⟩
 | int i t => exact ⟨⟨_, .int _ _⟩, rfl, Nat.zero_le _⟩
 | str e => subst e; exact ⟨⟨_, .str _ _⟩, strOk_ofString _, Nat.zero_le _⟩
 | @tup n a vs l e hl h1 _ ih =>
  obtain ⟨⟨as, r1⟩, r2, r3⟩ := zipInd (C := fun l vs => (∃ as, ReadsAll h vs (pds l) as) /\ PyData.canLayAll0 (pds l) = true /\ PyData.depthAll (pds l) ≤ n) ⟨⟨_, .nil⟩, rfl, Nat.zero_le _⟩
   (fun v x l vs ⟨⟨as, r1⟩, r2, r3⟩ ⟨⟨bs, s1⟩, s2, s3⟩ => ⟨⟨_, .cons r1 s1⟩, (Bool.and_eq_true _ _).mpr ⟨r2, s2⟩, Nat.max_le.mpr ⟨r3, s3⟩⟩) h1 ih
  exact ⟨⟨as, .tuple e rfl rfl r1⟩, r2, Nat.succ_le_succ r3⟩
theorem PR.well {P : Params} {n : Nat} {v : V} {x : Value} (r : PR h n v x) : Well P h x (wd v) /\ (wd v).isDKey = true /\ (wd v).depth ≤ n := by
 induction r with
 | none => exact ⟨.none, rfl, Nat.zero_le _⟩
 | int i t => exact ⟨.int _ _, rfl, Nat.zero_le _⟩
 | str e => subst e; exact ⟨.str _ _, rfl, Nat.zero_le _⟩
 | @tup n a vs l e hl h1 _ ih =>
  obtain ⟨r1, r2, r3⟩ := zipInd (C := fun l vs => WellAll P h vs (wds l) /\ WData.areDKeys (wds l) = true /\ WData.depthAll (wds l) ≤ n) ⟨.nil, rfl, Nat.zero_le _⟩
   (fun v x l vs ⟨r1, r2, r3⟩ ⟨s1, s2, s3⟩ => ⟨.cons r1 s1, (Bool.and_eq_true _ _).mpr ⟨r2, s2⟩, Nat.max_le.mpr ⟨r3, s3⟩⟩) h1 ih
  exact ⟨.tuple e r1, r2, Nat.succ_le_succ r3⟩
end
section
variable {prog : Program} {w : World}
theorem PR.quiet {h : Heap} {n : Nat} {v : V} {x : Value} (r : PR h n v x) : ∀ {A : Around} {E : Value -> Shared -> Prop} {d : Nat} {s : Shared} {Q : Bool -> Shared -> Prop}, s.heap = h -> n ≤ d -> Q true s -> wpAny (model prog w) A (eqIsQuiet d x) Q E s := by
 induction r with
 | none => intro A E d s Q _ _ hq; rw [eqIsQuiet_byValue _ rfl]; exact wpAny_pure hq
 | int i t => intro A E d s Q _ _ hq; rw [eqIsQuiet_byValue _ rfl]; exact wpAny_pure hq
 | str e => intro A E d s Q _ _ hq; rw [eqIsQuiet_byValue _ rfl]; exact wpAny_pure hq
 | @tup n a vs l e hl h1 _ ih =>
  intro A E d s Q hs hd hq
  obtain ⟨d, rfl⟩ : ∃ k, d = k + 1 := ⟨d - 1, by omega⟩
  subst hs
  have hT : s.TypeIs (.ref a) "tuple" := ⟨_, e, rfl⟩
  unfold eqIsQuiet
  refine wpAny_bind (wpAny_specialOf hT PySem.F.slot_tuple_eq.lookup ?_)
  show wpAny _ _ (isInstance (.ref a) (.type "tuple") >>= _) _ _ s
  refine wpAny_bind (wpAny_isInstance hT isSubtype_tuple_tuple ?_)
  simp only [Bool.not_true, Bool.false_eq_true, if_false]
  refine wpAny_bind (wpAny_seqItems e rfl ?_)
  refine wpAny_bind ?_
  show wpAny _ _ (forIn vs.toArray _ _) _ _ s
  rw [<- Array.forIn_toList]
  refine wpAny_forIn_list _ (fun (rest : List Value) r s' => r.1 = Option.none /\ s' = s /\ ∀ x ∈ rest, ∃ (i : Nat) (v : V), l[i]? = some v /\ vs[i]? = some x) _ ?_ ?_ _ _ ⟨rfl, rfl, fun x hx => ?_⟩
  ·rintro y rest r s' ⟨hr, rfl, q⟩
   obtain ⟨i, v, e1, e2⟩ := q y (.head _)
   refine wpAny_bind (ih i v y e1 e2 rfl (Nat.le_of_succ_le_succ hd) ?_)
   simp only [Bool.not_true, Bool.false_eq_true, if_false]
   exact wpAny_pure ⟨rfl, rfl, fun x hx => q x (.tail _ hx)⟩
  ·rintro ⟨r1, r2⟩ s' ⟨hr, rfl, _⟩
   simp only at hr
   subst hr
   exact wpAny_pure hq
  ·obtain ⟨i, hi⟩ := List.mem_iff_getElem?.mp hx
   exact ⟨i, _, List.getElem?_eq_getElem (h1 ▸ (List.getElem?_eq_some_iff.mp hi).1), hi⟩
theorem hashOK {A : Around} {E : Value -> Shared -> Prop} {s : Shared} {n : Nat} {k : V} {x : Value} {Q : Int -> Shared -> Prop} (hA : A.units + 50 < cLine) (r : PR s.heap n k x) (hn : n ≤ 10) (h : ∀ tk, Q (hashV w.params k) { s with toks := tk }) : wpAny (model prog w) A (pyHash x) Q E s := by
 obtain ⟨w1, w2, w3⟩ := r.well (P := w.params)
 exact pyHash_laid (wd k) x A s Q w2 w1 (by omega) h
mutual
noncomputable def cnt : V -> Nat
 | .tup l => cnts l + 1
 | _ => 1
noncomputable def cnts : List V -> Nat
 | [] => 0
 | v :: l => cnt v + cnts l
end
theorem PR.hash {h : Heap} {n : Nat} {k : V} {x : Value} (r : PR h n k x) : ∀ {A : Around} {E : Value -> Shared -> Prop} {s : Shared} {Q : Int -> Shared -> Prop}, s.heap = h -> A.units + n + 2 < cLine ->
  Q (hashV w.params k) { s with toks := s.toks + cnt k } -> wpAny (model prog w) A (pyHash x) Q E s := by
 induction r with
 | none =>
  intro A E s Q _ hA h
  exact pyHash_slot (T := "NoneType") rfl PySem.F.slot_NoneType_hash PySem.F.entry_NoneType_hash (PySem.F.args_NoneType_hash_1 _) (beq_builtin_none _) (.inr (by omega)) (wpAny_bind (wpAny_pure (wpAny_bind (wpAny_mkInt (wpAny_pure ⟨_, _, rfl, h⟩)))))
 | int i t => intro A E s Q _ hA h; exact wpAny_pyHash_int (hashW_int w.params _ ▸ h)
 | str e => intro A E s Q _ hA h; subst e; exact wpAny_pyHash_str h
 | @tup n a vs l e hl h1 _ ih =>
  intro A E s Q hs hA h
  subst hs
  have loop := zipInd (M := fun v x => ∀ (s' : Shared) (Q : Int -> Shared -> Prop), s'.heap = s.heap -> Q (hashV w.params v) { s' with toks := s'.toks + cnt v } -> wpAny (model prog w) A.in1 (pyHash x) Q E s') (C := fun l vs => ∀ (s' : Shared) (b : Array Int) (Q : Array Int -> Shared -> Prop), s'.heap = s.heap ->
    (∀ b', b'.toList = b.toList ++ hashesW w.params (wds l) -> Q b' { s' with toks := s'.toks + cnts l }) ->
    wpAny (model prog w) A.in1 (forIn vs b fun x r => do let h <- pyHash x; pure PUnit.unit; pure (ForInStep.yield (r.push h))) Q E s')
   (fun s' b Q _ hQ => wpAny_pure (hQ b (List.append_nil _).symm))
   (fun v x l vs ihx ihl s' b Q hs hQ => by
    rw [List.forIn_cons]
    refine wpAny_bind (wpAny_bind (ihx _ _ hs ?_))
    refine wpAny_bind (wpAny_pure (wpAny_pure ?_))
    refine ihl _ _ _ hs fun b' hb => ?_
    have := hQ b' (by simp [hb, wds, hashesW, hashV])
    simpa [cnts, Nat.add_assoc] using this) h1 (fun i v x e f s' Q hs => ih i v x e f hs (by simp only [Around.in1_units]; omega))
  refine pyHash_slot (T := "tuple") ⟨_, e, rfl⟩ PySem.F.slot_tuple_hash PySem.F.entry_tuple_hash (PySem.F.args_tuple_hash_1 _) (beq_builtin_none _) (.inr (by omega)) ?_
  show wpAny _ _ (Builtin.Tuple.tupleItemsOf (.ref a) >>= _) _ _ s
  refine wpAny_bind (wpAny_tupleItemsOf e rfl ?_)
  refine wpAny_bind ?_
  rw [<- Array.forIn_toList]
  refine loop s #[] _ rfl fun b hb => ?_
  show wpAny _ _ (retInt (Builtin.Tuple.tupleHashOf b.toList)) _ _ _
  rw [hb]
  exact wpAny_bind (wpAny_mkInt (wpAny_pure ⟨_, _, rfl, h⟩))
open Classical in
theorem eqv_dec {n : Nat} {a b : V} (ha : pureN n a = true) (hb : pureN n b = true) : PyData.eqv (pd a) (pd b) = decide (a = b) := by
 have e := eqv_pure n a b ha hb
 by_cases h : a = b
 ·rw [decide_eq_true h]; exact e.mpr h
 ·rw [decide_eq_false h]; exact Bool.eq_false_iff.mpr fun z => h (e.mp z)
open Classical in
noncomputable def tupHK (prog : Program) (w : World) : HeapKind prog w (List V) where
 is := fun h l a => pureN 5 (.tup l) = true /\ PR h 5 (.tup l) (.ref a)
 hash := fun l => hashV w.params (.tup l)
 draws := fun l => cnt (.tup l)
 room := fun A => A.units + 100 < cLine
 inj := fun hx hy => V.tup.inj (hx.2.inj hy.2)
 keeps := fun hx ho hd hs => ⟨hx.1, hx.2.same fun a vs e => (hs.2 a (fun z => by subst z; rw [ho] at e; cases e; cases hd)).trans e⟩
 pyHash := fun hu hx h => hx.2.hash rfl (by omega) h
 eqBool := fun {A E s x y a b Q} hu hx hy h => by
  obtain ⟨⟨as, r1⟩, r2, r3⟩ := hx.2.reads
  obtain ⟨⟨bs, s1⟩, s2, s3⟩ := hy.2.reads
  refine PySem.SeqAt.eqBoolOverData prog w A E s _ _ _ _ _ _ Q r1 s1 r2 s2 (by have := Nat.min_le_left (pd (.tup x)).depth (pd (.tup y)).depth; omega) ?_
  rw [eqv_dec hx.1 hy.1]
  simpa using h
 quiet := fun hx h => hx.2.quiet rfl (by omega) h
end
open Classical in
noncomputable def dix : List (V × V) -> V -> Option Nat
 | [], _ => none
 | (a, _) :: r, k => if a = k then some 0 else (dix r k).map (· + 1)
theorem dix_hd {r : List (V × V)} {k b : V} : dix ((k, b) :: r) k = some 0 := if_pos rfl
theorem dix_tl {r : List (V × V)} {a k b : V} (e : a ≠ k) : dix ((a, b) :: r) k = (dix r k).map (· + 1) := if_neg e
theorem dput_hd {r : List (V × V)} {k b y : V} : dput ((k, b) :: r) k y = (k, y) :: r := if_pos rfl
theorem dput_tl {r : List (V × V)} {a k b y : V} (e : a ≠ k) : dput ((a, b) :: r) k y = (a, b) :: dput r k y := if_neg e
theorem dix_some {kv : List (V × V)} {k : V} : ∀ {j : Nat}, dix kv k = some j -> ∃ v, kv[j]? = some (k, v) /\ dget kv k = some v /\ ∀ y, dput kv k y = kv.set j (k, y) := by
 induction kv with
 | nil => exact fun h => nomatch h
 | cons p r ih =>
  obtain ⟨a, b⟩ := p
  intro j h
  by_cases e : a = k
  ·subst e
   rw [dix_hd] at h
   cases h
   exact ⟨b, rfl, if_pos rfl, fun y => dput_hd⟩
  ·rw [dix_tl e] at h
   obtain ⟨i, q, rfl⟩ := Option.map_eq_some_iff.mp h
   obtain ⟨v, h1, h2, h3⟩ := ih q
   exact ⟨v, h1, (if_neg e).trans h2, fun y => (dput_tl e).trans (congrArg _ (h3 y))⟩
theorem dix_none {kv : List (V × V)} {k : V} : dix kv k = none -> dget kv k = none /\ k ∉ kv.map (·.1) /\ ∀ y, dput kv k y = kv ++ [(k, y)] := by
 induction kv with
 | nil => exact fun _ => ⟨rfl, List.not_mem_nil, fun _ => rfl⟩
 | cons p r ih =>
  obtain ⟨a, b⟩ := p
  intro h
  by_cases e : a = k
  ·subst e; rw [dix_hd] at h; cases h
  ·rw [dix_tl e] at h
   obtain ⟨h1, h2, h3⟩ := ih (Option.map_eq_none_iff.mp h)
   exact ⟨(if_neg e).trans h1, fun m => (List.mem_cons.mp m).elim (fun z => e z.symm) h2, fun y => (dput_tl e).trans (congrArg _ (h3 y))⟩
section
variable {P : Params} {G : Gl} {h : Heap} {π : Pi} {hash : V -> Int} {kv : List (V × V)} {es : List DictEntry}
theorem ER.length (x : ER P G h π hash kv es) : es.length = kv.length := by induction x with | nil => rfl | cons _ _ _ ih => simp [ih]
theorem ER.at (x : ER P G h π hash kv es) : ∀ {j : Nat} {k v : V}, kv[j]? = some (k, v) -> ∃ a y, es[j]? = some ⟨hash k, a, y⟩ /\ VR G h π k a /\ VR G h π v y := by
 induction x with
 | nil => intro j k v e; simp at e
 | cons a b _ ih =>
  intro j k v e
  cases j with
  | zero => simp at e; obtain ⟨rfl, rfl⟩ := e; exact ⟨_, _, rfl, a, b⟩
  | succ j => simp at e; simpa using ih e
theorem ER.set (x : ER P G h π hash kv es) : ∀ {j : Nat} {k v v' : V} {y : Value}, kv[j]? = some (k, v) -> VR G h π v' y -> ER P G h π hash (kv.set j (k, v')) (es.modify j fun e => { e with val := y }) := by
 induction x with
 | nil => intro j k v v' y e; simp at e
 | cons a b r ih =>
  intro j k v v' y e q
  cases j with
  | zero => simp at e; obtain ⟨rfl, rfl⟩ := e; exact .cons a q r
  | succ j => simp at e; exact .cons a b (ih e q)
theorem ER.snoc (x : ER P G h π hash kv es) {k v : V} {a y : Value} (p : VR G h π k a) (q : VR G h π v y) : ER P G h π hash (kv ++ [(k, v)]) (es ++ [⟨hash k, a, y⟩]) := by
 induction x with
 | nil => exact .cons p q .nil
 | cons a b _ ih => exact .cons a b ih
theorem ER.mem (x : ER P G h π hash kv es) {e : DictEntry} (m : e ∈ es) : ∃ k v, (k, v) ∈ kv /\ e.hash = hash k /\ VR G h π k e.key /\ VR G h π v e.val := by
 induction x with
 | nil => simp at m
 | cons a b _ ih =>
  rcases List.mem_cons.mp m with rfl | m
  ·exact ⟨_, _, .head _, rfl, a, b⟩
  ·obtain ⟨k, v, h1, h2⟩ := ih m; exact ⟨k, v, .tail _ h1, h2⟩
open Classical in
theorem ER.findIdx (x : ER P G h π hash kv es) {p : DictEntry -> Bool} {k : V} (hp : ∀ k' v e, (k', v) ∈ kv -> VR G h π k' e.key -> p e = decide (k' = k)) : es.toArray.findIdx? p = dix kv k := by
 rw [List.findIdx?_toArray]
 induction x with
 | nil => rfl
 | @cons k0 v0 x0 y0 kv0 es0 a b _ ih =>
  rw [List.findIdx?_cons, hp _ _ ⟨hash k0, x0, y0⟩ (.head _) a, ih fun k' v e m r => hp k' v e (.tail _ m) r]
  by_cases e : k0 = k
  ·simp [dix, e]
  ·simp [dix, e]
end
theorem keyOk.out {kv : List (V × V)} {k : V} (ko : keyOk kv k) : kd k ≠ 0 /\ ∀ e ∈ kv, kd e.1 = kd k := by unfold keyOk at ko; exact ko
theorem KeysOk.nil : KeysOk [] := ⟨List.nodup_nil, 1, by decide, by simp⟩
theorem KeysOk.set {kv : List (V × V)} {j : Nat} {k v v' : V} (x : KeysOk kv) (e : kv[j]? = some (k, v)) : KeysOk (kv.set j (k, v')) := by
 have hm : (kv.set j (k, v')).map (·.1) = kv.map (·.1) := by
  rw [List.map_set]
  refine List.ext_getElem? fun i => ?_
  rw [List.getElem?_set]
  split
  ·rename_i z; subst z
   split
   ·simp [e]
   ·rename_i z
    have := (List.getElem?_eq_some_iff.mp e).1
    simp at z; omega
  ·rfl
 obtain ⟨h1, c, h2, h3⟩ := x
 refine ⟨by rw [hm]; exact h1, c, h2, fun q hq => ?_⟩
 have : q.1 ∈ (kv.set j (k, v')).map (·.1) := List.mem_map_of_mem hq
 rw [hm] at this
 obtain ⟨z, hz, e⟩ := List.mem_map.mp this
 rw [<- e]; exact h3 z hz
theorem KeysOk.snoc {kv : List (V × V)} {k v : V} (x : KeysOk kv) (ko : keyOk kv k) (n : k ∉ kv.map (·.1)) : KeysOk (kv ++ [(k, v)]) := by
 obtain ⟨h1, c, h2, h3⟩ := x
 refine ⟨?_, kd k, ko.out.1, fun q hq => ?_⟩
 ·rw [List.map_append]
  refine List.nodup_append.mpr ⟨h1, by simp, ?_⟩
  intro a ha b hb
  simp at hb
  rintro rfl
  exact n (hb ▸ ha)
 ·rcases List.mem_append.mp hq with hq | hq
  ·exact ko.out.2 q hq
  ·simp at hq; rw [hq]
section
variable {prog : Program} {w : World} {G : Gl} {g₀ : Heap} {A : Around} {E : Value -> Shared -> Prop} {s : Shared} {σ : St} {π : Pi}
theorem KeysOk.kd {kv : List (V × V)} {k : V} (ko : keyOk kv k) {k' v : V} (m : (k', v) ∈ kv) : kd k' = kd k := ko.out.2 _ m
theorem kd_inv {v : V} (h : kd v ≠ 0) : (kd v = 1 /\ ∃ j, v = .int j) ∨ (kd v = 2 /\ ∃ j, v = .str j) ∨ (kd v = 3 /\ ∃ l, v = .tup l /\ pureN 5 v = true) := by
 cases v with
 | int i => exact .inl ⟨rfl, i, rfl⟩
 | str i => exact .inr (.inl ⟨rfl, i, rfl⟩)
 | tup l =>
  have e : kd (.tup l) = if l.all (pureN 4) then 3 else 0 := rfl
  by_cases p : l.all (pureN 4) = true
  ·rw [if_pos p] at e; exact .inr (.inr ⟨e, l, rfl, p⟩)
  ·rw [if_neg p] at e; exact absurd e h
 | _ => exact absurd rfl h
theorem kd_pure {v : V} (h : kd v ≠ 0) : pureN 5 v = true := by
 rcases kd_inv h with ⟨_, j, rfl⟩ | ⟨_, j, rfl⟩ | ⟨_, l, rfl, p⟩
 ·rfl
 ·rfl
 ·exact p
theorem kd1 {v : V} (h : kd v = 1) : ∃ j, v = .int j := (kd_inv (by rw [h]; nofun)).elim (·.2) fun e => e.elim (fun e => nomatch h.symm.trans e.1) fun e => nomatch h.symm.trans e.1
theorem kd2 {v : V} (h : kd v = 2) : ∃ j, v = .str j := (kd_inv (by rw [h]; nofun)).elim (fun e => nomatch h.symm.trans e.1) fun e => e.elim (·.2) fun e => nomatch h.symm.trans e.1
theorem kd3 {v : V} (h : kd v = 3) : ∃ j, v = .tup j /\ pureN 5 (.tup j) = true := (kd_inv (by rw [h]; nofun)).elim (fun e => nomatch h.symm.trans e.1) fun e => e.elim (fun e => nomatch h.symm.trans e.1) fun ⟨_, j, e, p⟩ => ⟨j, e, e ▸ p⟩
open Classical in
theorem findOK {d : Addr} {n : Nat} {k : V} {x : Value} {kv : List (V × V)} {es : List DictEntry} {Q : Option Nat -> Shared -> Prop} (hA : A.units + 100 < cLine) (e : s.heap.get? d = some (dicO es n)) (R : ER w.params G s.heap π (hashV w.params) kv es)
  (K : KeysOk kv) (ko : keyOk kv k) (r : VR G s.heap π k x) (h : Q (dix kv k) s) : wpAny (model prog w) A (dictFind d x (hashV w.params k)) Q E s := by
 have hk := ko.out.1
 have pk := kd_pure hk
 rcases kd_inv hk with ⟨x, i, rfl⟩ | ⟨x, i, rfl⟩ | ⟨x, i, rfl, _⟩
 ·obtain ⟨t, rfl⟩ := r.int_inv
  have all : ∀ k' v, (k', v) ∈ kv -> ∃ j, k' = .int j := fun k' v m => kd1 (KeysOk.kd ko m)
  have hh : hashV w.params (.int i) = (intKind prog w).hash i := hashW_int w.params i
  rw [hh]
  refine wpAny_dictFind_of (knd := intKind prog w) (by simp [intKind, Value.isInt]) e rfl ?_ ?_
  ·intro z hz
   obtain ⟨k', v, m, h1, h2, _⟩ := R.mem (List.mem_toArray.mp hz)
   obtain ⟨j, rfl⟩ := all k' v m
   obtain ⟨u, hu⟩ := h2.int_inv
   exact ⟨j, by rw [hu]; simp [intKind, Value.isInt], by rw [h1]; exact hashW_int w.params j⟩
  ·rw [R.findIdx (k := .int i) fun k' v z m q => ?_]
   ·exact h
   ·obtain ⟨j, rfl⟩ := all k' v m
    obtain ⟨u, hu⟩ := q.int_inv
    rw [hu]
    simp [intKind, Value.isInt]
    by_cases z : i = j
    ·subst z; simp
    ·have : ¬ j = i := fun q => z q.symm
     simp [z, this]
 ·obtain ⟨t, rfl⟩ := r.str_inv
  have all : ∀ k' v, (k', v) ∈ kv -> ∃ j, k' = .str j := fun k' v m => kd2 (KeysOk.kd ko m)
  have hh : hashV w.params (.str i) = (PySem.strKind prog w).hash (Str.ofString i) := rfl
  rw [hh]
  refine wpAny_dictFind_of (knd := strKind prog w) (strKind_is prog w _ t) e rfl ?_ ?_
  ·intro z hz
   obtain ⟨k', v, m, h1, h2, _⟩ := R.mem (List.mem_toArray.mp hz)
   obtain ⟨j, rfl⟩ := all k' v m
   obtain ⟨u, hu⟩ := h2.str_inv
   exact ⟨_, by rw [hu]; exact strKind_is prog w _ u, h1⟩
  ·rw [R.findIdx (k := .str i) fun k' v z m q => ?_]
   ·exact h
   ·obtain ⟨j, rfl⟩ := all k' v m
    obtain ⟨u, hu⟩ := q.str_inv
    rw [hu]
    by_cases z : i = j
    ·subst z; rw [strKind_is]; simp
    ·have z2 : ¬ Str.ofString i = Str.ofString j := fun q => z (ofString_inj q)
     have : ¬ (V.str j = V.str i) := fun q => z (by injection q with q; exact q.symm)
     rw [decide_eq_false this]
     simpa [PySem.strKind, Value.isStrOf] using fun q => z2 (Eq.symm q)
 ·have all : ∀ k' v, (k', v) ∈ kv -> ∃ j, k' = .tup j /\ pureN 5 (.tup j) = true := fun k' v m => kd3 ((KeysOk.kd ko m).trans x)
  have r0 := r.pure pk
  induction r.tup_is with | @mk a vs _ _ _ =>
  have key : ∀ (kv : List (V × V)) (es : List DictEntry), ER w.params G s.heap π (hashV w.params) kv es -> (∀ k' v, (k', v) ∈ kv -> ∃ j, k' = .tup j /\ pureN 5 (.tup j) = true) ->
    ∃ xs : List (List V × Addr × Value), es = xs.map (entryOfKey (tupHK prog w)) /\ (∀ x ∈ xs, (tupHK prog w).is s.heap x.1 x.2.1) /\ kv.map (·.1) = xs.map (fun x => V.tup x.1) := by
   intro kv es R
   induction R with
   | nil => intro _; exact ⟨[], rfl, by simp, rfl⟩
   | cons a b _ ih =>
    intro all
    obtain ⟨j, hj, pj⟩ := all _ _ (.head _)
    subst hj
    obtain ⟨xs, h1, h2, h3⟩ := ih fun k' v m => all k' v (.tail _ m)
    have a0 := a.pure pj
    induction a.tup_is with | @mk c us _ _ _ =>
    refine ⟨(j, c, _) :: xs, by rw [h1]; rfl, ?_, by simp [h3]⟩
    intro x hx
    rcases List.mem_cons.mp hx with rfl | hx
    ·exact ⟨pj, a0⟩
    ·exact h2 x hx
  obtain ⟨xs, h1, h2, h3⟩ := key kv es R all
  have nd : (xs.map (·.1)).Nodup := by
   have := K.1
   rw [h3] at this
   rw [show (fun x : List V × Addr × Value => V.tup x.1) = V.tup ∘ (·.1) from rfl, <- List.map_map] at this
   exact (List.pairwise_map.mp this).imp fun h z => h (by rw [z])
  have idx : ∀ (xs : List (List V × Addr × Value)) (kv : List (V × V)), kv.map (·.1) = xs.map (fun x => V.tup x.1) -> (∀ (j : Nat) (p : Addr × Value), xs[j]? = some (i, p) -> (∀ (j' : Nat) (p' : Addr × Value), xs[j']? = some (i, p') -> j ≤ j') -> dix kv (.tup i) = some j) /\ ((∀ (j : Nat) (p : Addr × Value), xs[j]? ≠ some (i, p)) -> dix kv (.tup i) = none) := by
   intro xs
   induction xs with
   | nil => intro kv e; cases kv <;> simp at e; exact ⟨fun j p q => by simp at q, fun _ => rfl⟩
   | cons x xs ih =>
    intro kv e
    cases kv with
    | nil => simp at e
    | cons z kv =>
     simp only [List.map_cons, List.cons.injEq] at e
     obtain ⟨z1, z2⟩ := z
     obtain ⟨e1, e2⟩ := e
     simp only at e1
     subst e1
     obtain ⟨i1, i2⟩ := ih kv e2
     refine ⟨fun j p q mn => ?_, fun no => ?_⟩
     ·unfold dix
      by_cases c : x.1 = i
      ·have : j = 0 := by have := mn 0 x.2 (by simp [<- c]); omega
       subst this; rw [if_pos (by rw [c])]
      ·rw [if_neg (fun q => c (by injection q))]
       cases j with
       | zero => simp at q; exact absurd (by rw [q]) c
       | succ j => rw [i1 j p (by simpa using q) fun j' p' q' => by have := mn (j' + 1) p' (by simpa using q'); omega]; rfl
     ·unfold dix
      by_cases c : x.1 = i
      ·exact absurd (by simp [<- c]) (no 0 x.2)
      ·rw [if_neg (fun q => c (by injection q)), i2 fun j p q => no (j + 1) p (by simpa using q)]; rfl
  refine wpAny_dictFind_heap (knd := tupHK prog w) (k := i) (xs := xs) hA ⟨pk, r0⟩ e rfl (by simpa using h1) h2 nd (fun no => ?_) fun j p hj => ?_
  ·rw [(idx xs kv h3).2 no] at h; exact h
  ·rw [(idx xs kv h3).1 j p hj fun j' p' q' => Nat.le_of_eq (idxH_unique nd hj q')] at h; exact h
end
section
variable {prog : Program} {w : World} {G : Gl} {g₀ : Heap} {A : Around} {E : Value -> Shared -> Prop} {s : Shared} {σ : St} {π : Pi} {Q : Post} {Qc : Value -> Shared -> Prop}
 {d : Addr} {n : Nat} {k : V} {x : Value} {kv : List (V × V)} {es : List DictEntry}
theorem dictGetOK {Q : Option Value -> Shared -> Prop} (hA : A.units + 100 < cLine) (e : s.heap.get? d = some (dicO es n)) (R : ER w.params G s.heap π (hashV w.params) kv es)
  (K : KeysOk kv) (ko : keyOk kv k) (r : VR G s.heap π k x) (h0 : dget kv k = none -> ∀ tk, Q none { s with toks := tk }) (h1 : ∀ v y, dget kv k = some v -> VR G s.heap π v y -> ∀ tk, Q (some y) { s with toks := tk }) :
  wpAny (model prog w) A (dictGet d x) Q E s := by
 unfold dictGet
 refine wpAny_holding (wpAny_bind (hashOK (by omega) (r.pure (kd_pure ko.out.1)) (by decide) fun tk => wpAny_bind (findOK (s := { s with toks := tk }) hA e R K ko r ?_)))
 cases hd : dix kv k with
 | none => exact wpAny_pure (h0 (dix_none hd).1 tk)
 | some j =>
  obtain ⟨v, e1, e2, _⟩ := dix_some hd
  obtain ⟨a, y, e3, _, ry⟩ := R.at e1
  refine wpAny_bind (wpAny_dictEntries (s := { s with toks := tk }) e rfl ?_)
  rw [List.getElem?_toArray, e3]
  exact wpAny_pure (h1 v y e2 ry tk)
theorem truthy_b {b : Bool} {Q : Bool -> Shared -> Prop} (h : Q b s) : wpAny (model prog w) A (truthy (.bool b)) Q E s := wpAny_truthy_bool h
theorem containsOK {Q : Bool -> Shared -> Prop} (hA : Roomy A) (hs : (d == sysModules) = false) (e : s.heap.get? d = some (dicO es n)) (R : ER w.params G s.heap π (hashV w.params) kv es)
  (K : KeysOk kv) (ko : keyOk kv k) (r : VR G s.heap π k x) (h : ∀ tk, Q (dget kv k).isSome { s with toks := tk }) : wpAny (model prog w) A (contains (.ref d) x) Q E s := by
 have hT : s.TypeIs (.ref d) "dict" := ⟨_, e, rfl⟩
 have hu := hA.2
 unfold contains
 refine wpAny_holding ?_
 refine wpAny_bind (wpAny_specialOf hT slot_dict_contains.lookup ?_)
 show wpAny _ _ (if (some (Value.builtin "dict.__contains__") == some Value.none) = true then _ else _) _ E s
 rw [if_neg (by rw [beq_builtin_none]; exact Bool.false_ne_true)]
 refine wpAny_bind (wpAny_callSpecialUnlessNone?_slot (name := Str.ofString "__contains__") hT slot_dict_contains
  (wpAny_call_entry slot_dict_contains hT entry_dict_contains ?_ (args_dict_contains _ _)))
 show wpAny _ _ (dictGet d x >>= _) _ _ s
 refine wpAny_bind (dictGetOK (by simp only [Around.in1_units]; omega) e R K ko r (fun h0 tk => ?_) fun v y h1 _ tk => ?_)
 ·show wpAny _ _ (Builtin.Dict.pendingKey? d x >>= _) _ _ _
  have := h tk
  rw [h0] at this
  exact wpAny_bind (wpAny_pendingKey_other hs (wpAny_pure ⟨_, rfl, wpAny_truthy_bool this⟩))
 ·have := h tk
  rw [h1] at this
  show wpAny _ _ (ret (.bool true)) _ _ _
  exact wpAny_pure ⟨_, rfl, wpAny_truthy_bool this⟩
theorem getItem_dictOK {Q : Value -> Shared -> Prop} (hA : Roomy A) (e : s.heap.get? d = some (dicO es n)) (R : ER w.params G s.heap π (hashV w.params) kv es)
  (K : KeysOk kv) (ko : keyOk kv k) (r : VR G s.heap π k x) {v : V} (hv : dget kv k = some v) (h : ∀ y, VR G s.heap π v y -> ∀ tk, Q y { s with toks := tk }) : wpAny (model prog w) A (getItem (.ref d) x) Q E s := by
 have hT : s.TypeIs (.ref d) "dict" := ⟨_, e, rfl⟩
 have hu := hA.2
 unfold getItem
 refine wpAny_holding ?_
 refine wpAny_bind (wpAny_sequenceKey hT (by decide) ?_)
 refine wpAny_bind (wpAny_callSpecial?_slot (name := Str.ofString "__getitem__") hT slot_dict_getitem
  (wpAny_call_entry slot_dict_getitem hT entry_dict_getitem ?_ (args_dict_getitem _ _)))
 show wpAny _ _ (dictGet d x >>= _) _ _ s
 refine wpAny_bind (dictGetOK (by simp only [Around.in1_units]; omega) e R K ko r (fun h0 tk => ?_) fun v' y h1 ry tk => ?_)
 ·rw [h0] at hv; cases hv
 ·rw [hv] at h1; cases h1
  exact wpAny_pure ⟨y, rfl, wpAny_pure (h y ry tk)⟩
theorem dictSetOK {Q : Unit -> Shared -> Prop} {v : V} {y : Value} (hA : A.units + 100 < cLine) (e : s.heap.get? d = some (dicO es n)) (R : ER w.params G s.heap π (hashV w.params) kv es)
  (K : KeysOk kv) (ko : keyOk kv k) (r : VR G s.heap π k x) (rv : VR G s.heap π v y) (hz : kv.length < lim)
  (h : ∀ h' es' n' tk, (∀ c, c ≠ d -> h'.get? c = s.heap.get? c) -> h'.get? d = some (dicO es' n') -> ER w.params G s.heap π (hashV w.params) (dput kv k v) es' -> KeysOk (dput kv k v) -> (dput kv k v).length ≤ kv.length + 1 -> Q () { s with heap := h', toks := tk }) :
  wpAny (model prog w) A (dictSet d x y) Q E s := by
 unfold dictSet
 refine wpAny_holding (wpAny_bind (hashOK (by omega) (r.pure (kd_pure ko.out.1)) (by decide) fun tk => ?_))
 unfold dictSetHashed
 refine wpAny_holding (wpAny_bind (findOK (s := { s with toks := tk }) hA e R K ko r ?_))
 cases hd : dix kv k with
 | none =>
  obtain ⟨h1, h2, h3⟩ := dix_none hd
  refine wpAny_bind (wpAny_rule (wpAny_updateDictKeys (s := { s with toks := tk }) e rfl ?_ (by rw [List.size_toArray, R.length]; exact Nat.le_trans (Nat.le_of_lt hz) lim_le)))
  refine h _ (es ++ [⟨hashV w.params k, x, y⟩]) (n + 1) tk (fun c hc => Heap.get?_update_ne _ _ _ _ hc) ?_ (by rw [h3]; exact R.snoc r rv) (by rw [h3]; exact K.snoc ko h2) (by rw [h3]; simp)
  exact (Heap.get?_update_self _ e rfl).trans (congrArg (fun a => some ({ cls := .type "dict", data := .dict a (n + 1) } : Obj)) (List.push_toArray _ _))
 | some j =>
  obtain ⟨v0, h1, h2, h3⟩ := dix_some hd
  refine wpAny_bind (wpAny_rule (wpAny_bind (wpAny_updateDict (s := { s with toks := tk }) e rfl (wpAny_point ?_) (by simp))))
  refine h _ (es.modify j fun z => { z with val := y }) n tk (fun c hc => Heap.get?_update_ne _ _ _ _ hc) ?_ (by rw [h3]; exact R.set h1 rv) (by rw [h3]; exact K.set h1) (by rw [h3]; simp)
  exact (Heap.get?_update_self _ e rfl).trans (congrArg (fun a => some ({ cls := .type "dict", data := .dict a n } : Obj)) List.modify_toArray)
theorem setItem_dictOK {Q : Unit -> Shared -> Prop} {v : V} {y : Value} (hA : Roomy A) (e : s.heap.get? d = some (dicO es n)) (R : ER w.params G s.heap π (hashV w.params) kv es)
  (K : KeysOk kv) (ko : keyOk kv k) (r : VR G s.heap π k x) (rv : VR G s.heap π v y) (hz : kv.length < lim)
  (h : ∀ h' es' n' tk, (∀ c, c ≠ d -> h'.get? c = s.heap.get? c) -> h'.get? d = some (dicO es' n') -> ER w.params G s.heap π (hashV w.params) (dput kv k v) es' -> KeysOk (dput kv k v) -> (dput kv k v).length ≤ kv.length + 1 -> Q () { s with heap := h', toks := tk }) :
  wpAny (model prog w) A (setItem (.ref d) x y) Q E s := by
 have hT : s.TypeIs (.ref d) "dict" := ⟨_, e, rfl⟩
 have hu := hA.2
 unfold setItem
 refine wpAny_holding ?_
 refine wpAny_bind (wpAny_sequenceKey hT (by decide) ?_)
 refine wpAny_bind (wpAny_callSpecial?_slot (name := Str.ofString "__setitem__") hT slot_dict_setitem
  (wpAny_call_entry slot_dict_setitem hT entry_dict_setitem ?_ (args_dict_setitem _ _ _)))
 show wpAny _ _ (Builtin.Dict.notOrdered "__setitem__" ⟨[.ref d, x, y], []⟩ >>= _) _ _ s
 refine wpAny_bind (wpAny_notOrdered_dict hT ?_)
 show wpAny _ _ (dictSet d x y >>= _) _ _ s
 exact wpAny_bind (dictSetOK (by simp only [Around.in1_units]; omega) e R K ko r rv hz fun h' es' n' tk a b c f g => wpAny_pure ⟨.none, rfl, wpAny_pure (h h' es' n' tk a b c f g)⟩)
theorem dict_getOK {Q : Value -> Shared -> Prop} {v : V} {y : Value} (hA : Roomy A) (hs : (d == sysModules) = false) (e : s.heap.get? d = some (dicO es n)) (R : ER w.params G s.heap π (hashV w.params) kv es)
  (K : KeysOk kv) (ko : keyOk kv k) (r : VR G s.heap π k x) (rv : VR G s.heap π v y) (h : ∀ z tk, VR G s.heap π ((dget kv k).getD v) z -> Q z { s with toks := tk }) :
  wpAny (model prog w) A (call (.builtin "dict.get") [.ref d, x, y]) Q E s := by
 have hT : s.TypeIs (.ref d) "dict" := ⟨_, e, rfl⟩
 have hu := hA.2
 refine wpAny_call_entry PySem.F.slot_dict_get hT PySem.F.entry_dict_get ?_ (PySem.F.args_dict_get_3 _ _ _)
 show wpAny _ _ (dictGet d x >>= _) _ _ s
 refine wpAny_bind (dictGetOK (by simp only [Around.in1_units]; omega) e R K ko r (fun h0 tk => ?_) fun v' z h1 rz tk => ?_)
 ·show wpAny _ _ (Builtin.Dict.missed d x >>= _) _ _ _
  exact wpAny_bind (wpAny_missed_other hs (wpAny_pure ⟨y, rfl, h y tk (by rw [h0]; exact rv)⟩))
 ·exact wpAny_pure ⟨z, rfl, h z tk (by rw [h1]; exact rz)⟩
theorem dict_setdefaultOK {Q : Value -> Shared -> Prop} {v : V} {y : Value} (hA : Roomy A) (hs : (d == sysModules) = false) (e : s.heap.get? d = some (dicO es n)) (R : ER w.params G s.heap π (hashV w.params) kv es)
  (K : KeysOk kv) (ko : keyOk kv k) (r : VR G s.heap π k x) (rv : VR G s.heap π v y)
  (h0 : ∀ v' z tk, dget kv k = some v' -> VR G s.heap π v' z -> Q z { s with toks := tk })
  (h1 : dget kv k = none -> kv.length < lim /\ ∀ h' es' n' tk, (∀ c, c ≠ d -> h'.get? c = s.heap.get? c) -> h'.get? d = some (dicO es' n') -> ER w.params G s.heap π (hashV w.params) (kv ++ [(k, v)]) es' -> KeysOk (kv ++ [(k, v)]) -> Q y { s with heap := h', toks := tk }) :
  wpAny (model prog w) A (call (.builtin "dict.setdefault") [.ref d, x, y]) Q E s := by
 have hT : s.TypeIs (.ref d) "dict" := ⟨_, e, rfl⟩
 have hu := hA.2
 refine wpAny_call_entry PySem.F.slot_dict_setdefault hT PySem.F.entry_dict_setdefault ?_ (PySem.F.args_dict_setdefault_3 _ _ _)
 unfold Builtin.«dict.setdefault»
 refine wpAny_bind ?_
 unfold Builtin.Dict.keyAndDefault
 refine wpAny_bind (wpAny_notOrdered_dict hT ?_)
 show wpAny _ _ (pure (d, x, some y)) _ _ s
 refine wpAny_pure ?_
 show wpAny _ _ (if (d == sysModules) = true then _ else (dictSetDefault d x y >>= _)) _ _ s
 rw [if_neg (by rw [hs]; exact Bool.false_ne_true)]
 refine wpAny_bind ?_
 unfold dictSetDefault
 refine wpAny_holding (wpAny_bind (hashOK (by simp only [Around.in1_units]; omega) (r.pure (kd_pure ko.out.1)) (by decide) fun tk => wpAny_bind (findOK (s := { s with toks := tk }) (by simp only [Around.in1_units]; omega) e R K ko r ?_)))
 cases hd : dix kv k with
 | none =>
  obtain ⟨q1, q2, q3⟩ := dix_none hd
  obtain ⟨hz, q⟩ := h1 q1
  refine wpAny_bind (wpAny_rule (wpAny_bind (wpAny_updateDictKeys (s := { s with toks := tk }) e rfl (wpAny_pure (wpAny_pure ⟨y, rfl, ?_⟩)) (by rw [List.size_toArray, R.length]; exact Nat.le_trans (Nat.le_of_lt hz) lim_le))))
  refine q _ (es ++ [⟨hashV w.params k, x, y⟩]) (n + 1) tk (fun c hc => Heap.get?_update_ne _ _ _ _ hc) ?_ (R.snoc r rv) (K.snoc ko q2)
  exact (Heap.get?_update_self _ e rfl).trans (congrArg (fun a => some ({ cls := .type "dict", data := .dict a (n + 1) } : Obj)) (List.push_toArray _ _))
 | some j =>
  obtain ⟨v0, q1, q2, q3⟩ := dix_some hd
  obtain ⟨a, z, e3, _, rz⟩ := R.at q1
  refine wpAny_bind (wpAny_dictEntries (s := { s with toks := tk }) e rfl ?_)
  rw [List.getElem?_toArray, e3]
  exact wpAny_bind (wpAny_rule (wpAny_pure (wpAny_pure ⟨z, rfl, h0 v0 z tk q2 rz⟩)))
theorem len_dictOK {Q : Value -> Shared -> Prop} (hs : (d == sysModules) = false) (e : s.heap.get? d = some (dicO es n)) (hz : es.length ≤ lim) (h : ∀ t tk, Q (.int es.length t) { s with toks := tk }) :
  wpAny (model prog w) A (call (.builtin "len") [.ref d]) Q E s := by
 have hT : s.TypeIs (.ref d) "dict" := ⟨_, e, rfl⟩
 have hz' : (es.length : Int) < 2 ^ 63 := by simp [lim] at hz; omega
 refine Calls.call_function_entry kind_len plain_len entry_len (args_len1 _) ?_
 unfold Builtin.«len»
 refine wpAny_bind (m := oneArg "len" _) (wpAny_pure ?_)
 refine wpAny_bind (m := callSpecial? (.ref d) (Str.ofString "__len__")) (wpAny_callSpecial?_slot (name := Str.ofString "__len__") hT PySem.F.slot_dict_len
  (wpAny_call_entry PySem.F.slot_dict_len hT PySem.F.entry_dict_len ?_ (PySem.F.args_dict_len_1 _)))
 show wpAny _ _ (dictSize d >>= _) _ _ s
 unfold dictSize
 refine wpAny_bind (wpAny_bind (wpAny_dictEntries e rfl (wpAny_pure ?_)))
 show wpAny _ _ (Builtin.Dict.pendingCount d >>= _) _ _ s
 refine wpAny_bind (wpAny_pendingCount_other hs ?_)
 refine wpAny_ret_mkInt ?_
 rw [Nat.add_zero, List.size_toArray]
 refine wpAny_bind (wpAny_holding (wpAny_pure ?_))
 refine wpAny_bind (wpAny_letGo ?_)
 show wpAny _ _ (if ((es.length : Nat) : Int) < 0 then _ else _) _ _ _
 rw [if_neg (by omega)]
 show wpAny _ _ (if ((es.length : Nat) : Int) ≥ 2 ^ 63 then _ else _) _ _ _
 rw [if_neg (by omega)]
 exact wpAny_bind (wpAny_mkInt (wpAny_pure ⟨_, rfl, h _ _⟩))
end
section
variable {prog : Program} {w : World} {G : Gl} {g₀ : Heap} {A : Around} {E : Value -> Shared -> Prop} {s : Shared} {σ : St} {π : Pi} {Q : Post} {Qc : Value -> Shared -> Prop}
structure DR (h : Heap) (x : Value) (d : PyData) (n : Nat) : Prop where
 r : ∃ as, Reads h x d as
 l : d.canLay0 = true
 d : d.depth ≤ n
theorem dr_none {h : Heap} {n : Nat} {x : Value} {d : PyData} (r : VR G h π .none x) (e : dat σ n .none = some d) : DR h x d n := by
 rw [show dat σ n .none = some .none by cases n <;> rfl] at e
 cases e; rw [r.none_inv]; exact ⟨⟨_, .none⟩, rfl, Nat.zero_le _⟩
theorem dr_bool {h : Heap} {n : Nat} {b : Bool} {x : Value} {d : PyData} (r : VR G h π (.bool b) x) (e : dat σ n (.bool b) = some d) : DR h x d n := by
 rw [show dat σ n (.bool b) = some (.bool b) by cases n <;> rfl] at e
 cases e; rw [show x = _ from r.inv]; exact ⟨⟨_, .bool _⟩, rfl, Nat.zero_le _⟩
theorem dr_int {h : Heap} {n : Nat} {i : Int} {x : Value} {d : PyData} (r : VR G h π (.int i) x) (e : dat σ n (.int i) = some d) : DR h x d n := by
 rw [show dat σ n (.int i) = some (.int i) by cases n <;> rfl] at e
 obtain ⟨t, er⟩ := r.int_inv
 cases e; rw [er]; exact ⟨⟨_, .int _ _⟩, rfl, Nat.zero_le _⟩
theorem dr_str {h : Heap} {n : Nat} {y : String} {x : Value} {d : PyData} (r : VR G h π (.str y) x) (e : dat σ n (.str y) = some d) : DR h x d n := by
 rw [show dat σ n (.str y) = some (.str (Str.ofString y)) by cases n <;> rfl] at e
 obtain ⟨t, er⟩ := r.str_inv
 cases e; rw [er]; exact ⟨⟨_, .str _ _⟩, strOk_ofString _, Nat.zero_le _⟩
theorem dats {h : Heap} {n : Nat} (ih : ∀ {v : V} {x : Value} {d : PyData}, VR G h π v x -> dat σ n v = some d -> DR h x d n) (l : List V) : ∀ {vs : List Value} {ds : List PyData}, VRs G h π l vs -> l.mapM (dat σ n) = some ds -> (∃ as, ReadsAll h vs ds as) /\ PyData.canLayAll0 ds = true /\ PyData.depthAll ds ≤ n := by
 induction l with
 | nil => intro vs ds r e; rw [r.unnil]; cases e; exact ⟨⟨_, .nil⟩, rfl, Nat.zero_le _⟩
 | cons v l ih2 =>
  intro vs ds r e
  obtain ⟨y, vs', rfl, a, b⟩ := r.uncons
  rw [List.mapM_cons] at e
  obtain ⟨d, h1, e⟩ := Option.bind_eq_some_iff.mp e
  obtain ⟨ds', h2, e⟩ := Option.bind_eq_some_iff.mp e
  cases e
  obtain ⟨⟨as, r1⟩, r2, r3⟩ := ih a h1
  obtain ⟨⟨bs, s1⟩, s2, s3⟩ := ih2 b h2
  exact ⟨⟨_, .cons r1 s1⟩, (Bool.and_eq_true _ _).mpr ⟨r2, s2⟩, Nat.max_le.mpr ⟨r3, s3⟩⟩
theorem dat_reads (I : Inv w.params G g₀ s.heap σ π) (n : Nat) : ∀ {v : V} {x : Value} {d : PyData}, VR G s.heap π v x -> dat σ n v = some d -> DR s.heap x d n := by
 induction n with
 | zero =>
  intro v x d r e
  cases v with
  | none => exact dr_none r e
  | bool b => exact dr_bool r e
  | int i => exact dr_int r e
  | str y => exact dr_str r e
  | _ => exact no_some e
 | succ n ih =>
  intro v x d r e
  cases v with
  | none => exact dr_none r e
  | bool b => exact dr_bool r e
  | int i => exact dr_int r e
  | str y => exact dr_str r e
  | tup l =>
   obtain ⟨ds, e3, rfl⟩ := Option.map_eq_some_iff.mp (show (l.mapM (dat σ n)).map PyData.tuple = some d from e)
   induction r.tup_is with
   | mk g q _ =>
    obtain ⟨⟨as, r1⟩, r2, r3⟩ := dats ih _ q e3
    exact ⟨⟨as, .tuple g rfl rfl r1⟩, r2, Nat.succ_le_succ r3⟩
  | loc k =>
   cases hs : σ[k]? with
   | none => exact no_some (show none = some d by rw [<- e]; show _ = match σ[k]? with | some (.list l) => _ | _ => _; rw [hs])
   | some o =>
    cases o with
    | list l =>
     obtain ⟨ds, e3, rfl⟩ := Option.map_eq_some_iff.mp (show (l.mapM (dat σ n)).map PyData.list = some d by rw [<- e]; show _ = match σ[k]? with | some (.list l) => _ | _ => _; rw [hs])
     induction I.list r hs with
     | mk p _ g q =>
      obtain ⟨⟨as, r1⟩, r2, r3⟩ := dats ih _ q e3
      exact ⟨⟨_, .list g rfl rfl r1⟩, r2, Nat.succ_le_succ r3⟩
    | _ => exact no_some (show none = some d by rw [<- e]; show _ = match σ[k]? with | some (.list l) => _ | _ => _; rw [hs])
  | _ => exact no_some e
structure TbOK (prog : Program) (w : World) (G : Gl) (g₀ : Heap) : Prop where
 tab : ∀ t : Tb, t < nTb -> ∃ es n, g₀.get? (G.tb t) = some (dicO es n) /\ (G.tb t == sysModules) = false /\ (∀ h π, ER w.params G h π (hashV w.params) (t.rows.map fun r => (V.int r.1, V.int r.2)) es) /\ KeysOk (t.rows.map fun r => (V.int r.1, V.int r.2))
 lst : ∃ o, g₀.get? G.lst = some o
theorem tget_dget (rows : List (Int × Int)) (k : Int) : dget (rows.map fun r => (V.int r.1, V.int r.2)) (.int k) = (tget rows k).map .int := by
 induction rows with
 | nil => rfl
 | cons r rows ih =>
  obtain ⟨a, b⟩ := r
  simp only [List.map_cons, dget, tget]
  by_cases e : a = k
  ·simp [e]
  ·rw [if_neg (fun z => e (by injection z)), if_neg e, ih]
theorem not_sys (T : TbOK prog w G g₀) (I : Inv w.params G g₀ s.heap σ π) {a : Addr} (m : a ∈ addrs π) : (a == sysModules) = false := by
 have := (I.fresh a m).2
 simp only [beq_eq_false_iff_ne, ne_eq]
 exact this
theorem key_tab {rows : List (Int × Int)} (i : Int) : keyOk (rows.map fun r => (V.int r.1, V.int r.2)) (.int i) := by
 unfold keyOk
 refine ⟨nofun, fun z hz => ?_⟩
 obtain ⟨r, _, rfl⟩ := List.mem_map.mp hz
 rfl
variable {K : Kt} {ρ : Fr} {vs : List V}
theorem eqOK (hA : Roomy A) {a b : V} {x y : Value} {da db : PyData} {t : Bool} (I : Inv w.params G g₀ s.heap σ π) (ra : VR G s.heap π a x) (rb : VR G s.heap π b y) (e1 : dat σ 40 a = some da) (e2 : dat σ 40 b = some db) (e : PyData.eqv da db = t) :
  (Qc (.bool t) s -> wpAny (model prog w) A (compareOp .Eq x y) Qc E s) /\ (Qc (.bool (!t)) s -> wpAny (model prog w) A (compareOp .NotEq x y) Qc E s) := by
 have hu := hA.2
 obtain ⟨⟨as, r1⟩, r2, r3⟩ := dat_reads I 40 ra e1
 obtain ⟨⟨bs, s1⟩, s2, s3⟩ := dat_reads I 40 rb e2
 have sh : ∀ {d : PyData}, d.canLay0 = true -> d.depth ≤ 40 -> SeqAt.shaped d = true := fun h g => (Bool.and_eq_true _ _).mpr ⟨h, decide_eq_true (Nat.le_trans g (by decide))⟩
 subst e
 exact ⟨SeqAt.compareEq_shaped r1 s1 (sh r2 r3) (sh s2 s3) (by omega), SeqAt.compareNe_shaped r1 s1 (sh r2 r3) (sh s2 s3) (by omega)⟩
theorem cmpOK (hA : Roomy A) (T : TbOK prog w G g₀) {op : CmpOp} {x y : Value} (q : CmpW op K ρ σ vs) (I : Inv w.params G g₀ s.heap σ π) (r : V2 G s.heap π vs y x) (k : Kont w.params G g₀ s π (fun v σ' => K ρ σ' (v :: vs.tail.tail)) Qc) :
  wpAny (model prog w) A (compareOp op x y) Qc E s := by
 induction q with
 | lt e q => exact int2 r (M := fun y x => wpAny (model prog w) A (compareOp .Lt x y) Qc E s) fun t u => PySem.P.lt_int (e ▸ k.now I q (.bool _))
 | le e q => exact int2 r (M := fun y x => wpAny (model prog w) A (compareOp .LtE x y) Qc E s) fun t u => PySem.P.le_int (e ▸ k.now I q (.bool _))
 | gt e q => exact int2 r (M := fun y x => wpAny (model prog w) A (compareOp .Gt x y) Qc E s) fun t u => PySem.P.gt_int (e ▸ k.now I q (.bool _))
 | ge e q => exact int2 r (M := fun y x => wpAny (model prog w) A (compareOp .GtE x y) Qc E s) fun t u => PySem.P.ge_int (e ▸ k.now I q (.bool _))
 | eqI e q => exact (eqOK hA I r.2 r.1 rfl rfl e).1 (k.now I q (.bool _))
 | neI e q => exact (eqOK hA I r.2 r.1 rfl rfl e).2 (k.now I q (.bool _))
 | eqS e q => exact (eqOK hA I r.2 r.1 rfl rfl (ofString_beq.trans e)).1 (k.now I q (.bool _))
 | neS e q => exact (eqOK hA I r.2 r.1 rfl rfl (ofString_beq.trans e)).2 (k.now I q (.bool _))
 | eq e1 e2 e q => exact (eqOK hA I r.2 r.1 e1 e2 e).1 (k.now I q (.bool _))
 | ne e1 e2 e q => exact (eqOK hA I r.2 r.1 e1 e2 e).2 (k.now I q (.bool _))
 | isN q => rw [show x = _ from r.2.none_inv, show y = _ from r.1.none_inv]; exact wpAny_pure (k.now I q (.bool _))
 | isL q => rw [show y = _ from r.1.none_inv]; induction r.2.loc_is with | mk p => exact wpAny_pure (k.now I q (.bool _))
 | isnN q => rw [show x = _ from r.2.none_inv, show y = _ from r.1.none_inv]; exact wpAny_pure (k.now I q (.bool _))
 | isnL q => rw [show y = _ from r.1.none_inv]; induction r.2.loc_is with | mk p => exact wpAny_pure (k.now I q (.bool _))
 | @inT K ρ σ i t b vs e q =>
  obtain ⟨ht, ey⟩ := r.1.tbl_inv
  obtain ⟨es, n, e', hs, R, KO⟩ := T.tab t ht
  rw [ey]
  show wpAny _ _ (contains (.ref (G.tb t)) x >>= fun b => pure (Value.bool b)) _ _ s
  refine wpAny_bind (containsOK hA hs (I.base _ _ e') (R _ _) KO (k := .int i) (key_tab _) r.2 fun tk => wpAny_pure ?_)
  rw [tget_dget, Option.isSome_map, e]
  exact k.here I q (.bool _) tk
 | inD hs ko e q =>
  subst e
  induction I.dict r.1 hs with
  | mk p hz e R KO =>
  show wpAny _ _ (contains (.ref _) x >>= fun b => pure (Value.bool b)) _ _ s
  exact wpAny_bind (containsOK hA (not_sys T I (mem_addrs1 p)) e R KO ko r.2 fun tk => wpAny_pure (k.here I q (.bool _) tk))
 | ninD hs ko e q =>
  subst e
  induction I.dict r.1 hs with
  | mk p hz e R KO =>
  show wpAny _ _ (contains (.ref _) x >>= fun b => pure (Value.bool (!b))) _ _ s
  exact wpAny_bind (containsOK hA (not_sys T I (mem_addrs1 p)) e R KO ko r.2 fun tk => wpAny_pure (k.here I q (.bool _) tk))
theorem neg1 (n : Nat) : (-1 + (n : Int)).toNat = n - 1 := by rw [Int.add_comm]; exact Int.toNat_sub n 1
theorem neg_pos {n : Nat} (h : 0 < n) : -(n : Int) ≤ -1 := by omega
theorem lt_of_lim {n : Nat} (h : n ≤ lim) : (n : Int) < 2 ^ 63 := by
 have : n ≤ 100000 := h
 omega
theorem lt_big {n : Nat} {l : List V} {v : V} (hl : l.length ≤ lim) (e : l[n]? = some v) : (n : Int) < 2 ^ 63 := lt_of_lim (Nat.le_trans (Nat.le_of_lt (List.getElem?_eq_some_iff.mp e).1) hl)
theorem ix_nat {n m : Nat} (h : n < m) : seqIndex? (n : Int) m = some n := by
 unfold seqIndex?
 rw [if_neg (Int.not_lt.mpr (Int.natCast_nonneg n)), if_pos (by simp; exact h)]
 rfl
theorem idxOK (hA : Roomy A) (T : TbOK prog w G g₀) {x y : Value} (q : IdxW K ρ σ vs) (I : Inv w.params G g₀ s.heap σ π) (r : V2 G s.heap π vs y x) (k : Kont w.params G g₀ s π (fun v σ' => K ρ σ' (v :: vs.tail.tail)) Qc) :
  wpAny (model prog w) A (getItem x y) Qc E s := by
 induction q with
 | tup hi hv q =>
  subst hi
  obtain ⟨rb, ra⟩ := r
  obtain ⟨u, rfl⟩ := rb.int_inv
  induction ra.tup_is with
  | mk e r hl =>
  obtain ⟨z, h3, rz⟩ := r.get hv
  exact PySem.P.getItem_tuple (n := 0) e (Int.le_trans (by decide) (Int.natCast_nonneg _)) (lt_big hl hv) (ix_nat (List.getElem?_eq_some_iff.mp h3).1) (by rw [List.getElem?_toArray]; exact h3) (k.now I q rz)
 | @str y t' i n vs hi hb hz q =>
  subst hi
  obtain ⟨rb, ra⟩ := r
  obtain ⟨u, rfl⟩ := rb.int_inv
  obtain ⟨t, rfl⟩ := ra.str_inv
  have hb : n ≤ 1000000 := Nat.le_of_ble_eq_true hb
  unfold strAt at hz
  obtain ⟨c, hc, rfl⟩ := Option.map_eq_some_iff.mp hz
  have hl := (List.getElem?_eq_some_iff.mp hc).1
  refine PySem.P.getItem_str (c := c.toNat) (by simp; omega) ?_ ?_
  ·rw [Str.ofString_eq_toList y, show Str.length ⟨(y.toList.map Char.toNat).toArray⟩ = y.toList.length from by simp [Str.length], ix_nat hl]
   simp [hc]
  ·rw [show (⟨#[c.toNat]⟩ : Str) = Str.ofString (String.ofList [c]) from by rw [Str.ofString_eq_toList]; simp]
   exact k.here I q (.str _ _) _
 | loc hs q' q =>
  obtain ⟨rb, ra⟩ := r
  induction q' with
  | last hv =>
   obtain ⟨u, rfl⟩ := rb.int_inv
   induction I.list ra hs with
   | @mk c ws m p _ e r =>
   rw [List.getLast?_eq_getElem?] at hv
   obtain ⟨z, h3, rz⟩ := r.get hv
   exact wpAny_getItem_list_neg (items := ws.toArray) ⟨_, e, rfl, m, rfl⟩ (by decide) (neg_pos (Nat.zero_lt_of_lt (List.getElem?_eq_some_iff.mp h3).1)) (by decide) (by rw [neg1, List.size_toArray, List.getElem?_toArray, <- r.length]; exact h3) (k.now I q rz)
  | list hi hv =>
   subst hi
   obtain ⟨u, rfl⟩ := rb.int_inv
   induction I.list ra hs with
   | @mk c ws m p hl e r =>
   obtain ⟨z, h3, rz⟩ := r.get hv
   exact wpAny_getItem_list (items := ws.toArray) ⟨_, e, rfl, m, rfl⟩ (Int.natCast_nonneg _) (lt_big hl hv) (by rw [List.getElem?_toArray]; exact h3) (k.now I q rz)
  | dict ko hv =>
   induction I.dict ra hs with
   | mk p hz e R KO => exact getItem_dictOK hA e R KO ko rb hv fun z rz tk => k.here I q rz tk
end
inductive Sl where
 | upto (i : Nat)
 | from' (i : Nat)
 | all
 | rev
noncomputable def Sl.f {α : Type} : Sl -> List α -> List α
 | .upto i => List.take i
 | .from' i => List.drop i
 | .all => id
 | .rev => List.reverse
inductive SlParts : Sl -> Value -> Value -> Value -> Prop
 | upto (i : Nat) (t : Tok) : SlParts (.upto i) .none (.int i t) .none
 | from' (i : Nat) (t : Tok) : SlParts (.from' i) (.int i t) .none .none
 | all : SlParts .all .none .none .none
 | rev (t : Tok) : SlParts .rev .none .none (.int (-1) t)
noncomputable abbrev slO (a b c : Value) : Obj := { cls := .type "slice", data := .fields #[a, b, c] }
theorem VRs.sl {G : Gl} {h : Heap} {π : Pi} {l : List V} {vs : List Value} (r : VRs G h π l vs) (k : Sl) : VRs G h π (k.f l) (k.f vs) := by
 cases k with
 | upto i => exact r.take i
 | from' i => exact r.drop i
 | all => exact r
 | rev => exact r.reverse
theorem Sl.len {α : Type} (k : Sl) (l : List α) : (k.f l).length ≤ l.length := by
 cases k <;> simp [Sl.f] <;> omega
section
variable {prog : Program} {w : World} {G : Gl} {g₀ : Heap} {A : Around} {E : Value -> Shared -> Prop} {s : Shared} {σ : St} {π : Pi} {Q : Post} {Qc : Value -> Shared -> Prop}
theorem KontU.setAt {Q : St -> Prop} {Qc : Shared -> Prop} (k : KontU w.params G g₀ s π Q Qc) (I : Inv w.params G g₀ s.heap σ π) {n : Nat} {p : Addr × Option Addr} {b : Addr} {o o₀ : O} {ob ob' : Obj} {h' : Heap} {tk : Nat} (q : Q (σ.set n o)) (e : π[n]? = some p) (hb : b ∈ p.1 :: p.2.toList) (hs : σ[n]? = some o₀)
  (other : ∀ c, c ≠ b -> h'.get? c = s.heap.get? c) (e0 : s.heap.get? b = some ob) (e1 : h'.get? b = some ob') (ec : ob'.cls = ob.cls) (r : Step s.heap π h' π -> OR w.params G h' π o p) : Qc { s with heap := h', toks := tk } := by
 obtain ⟨I', S⟩ := I.upd e hb hs other e0 e1 ec r
 exact k _ { s with heap := h', toks := tk } _ q I' S ⟨rfl, rfl⟩
theorem Kont.setAt (k : Kont w.params G g₀ s π Q Qc) (I : Inv w.params G g₀ s.heap σ π) {v : V} {x : Value} {n : Nat} {p : Addr × Option Addr} {b : Addr} {o o₀ : O} {ob ob' : Obj} {h' : Heap} {tk : Nat} (q : Q v (σ.set n o)) (e : π[n]? = some p) (hb : b ∈ p.1 :: p.2.toList) (hs : σ[n]? = some o₀)
  (other : ∀ c, c ≠ b -> h'.get? c = s.heap.get? c) (e0 : s.heap.get? b = some ob) (e1 : h'.get? b = some ob') (ec : ob'.cls = ob.cls) (r : Step s.heap π h' π -> OR w.params G h' π o p) (rv : VR G s.heap π v x) : Qc x { s with heap := h', toks := tk } := by
 obtain ⟨I', S⟩ := I.upd e hb hs other e0 e1 ec r
 exact k _ _ { s with heap := h', toks := tk } _ _ q I' S ⟨rfl, rfl⟩ (rv.step I S)
theorem list_setOK {l : Addr} {vs : List Value} {m : Nat} {k : Int} {t : Tok} {x : Value} {Q : Unit -> Shared -> Prop} (e : s.heap.get? l = some (lstO vs m)) (h0 : 0 ≤ k) (hj : k < vs.length) (hz : k < 2 ^ 63)
  (h : ∀ h' m', (∀ c, c ≠ l -> h'.get? c = s.heap.get? c) -> h'.get? l = some (lstO (vs.set k.toNat x) m') -> Q () { s with heap := h' }) :
  wpAny (model prog w) A (setItem (.ref l) (.int k t) x) Q E s := by
 have hT : s.TypeIs (.ref l) "list" := ⟨_, e, rfl⟩
 have fin : ∀ tk : Unit, Q tk { s with heap := s.heap.update l (Obj.mapSeq (·.setIfInBounds k.toNat x)) } := fun _ => by
  refine h _ m (fun c hc => Heap.get?_update_ne _ _ _ _ hc) ?_
  rw [Heap.get?_update_self _ e rfl]
  simp [Obj.mapSeq]
 unfold setItem
 refine wpAny_holding (wpAny_bind (wpAny_sequenceKey hT (by decide) ?_))
 refine wpAny_bind (wpAny_callSpecial?_slot (name := Str.ofString "__setitem__") hT PySem.slot_list_setitem
  (wpAny_call_entry PySem.slot_list_setitem hT PySem.entry_list_setitem ?_ (PySem.args_list_setitem _ _ _)))
 show wpAny _ _ (Builtin.List.listSubscript? (.int k t) >>= _) _ _ s
 refine wpAny_bind (wpAny_listSubscript_int (fitsIndex_of h0 hz) ?_)
 clear hz
 obtain ⟨j, rfl⟩ := Int.eq_ofNat_of_zero_le h0
 have hj : j < vs.length := by omega
 show wpAny _ _ ((seqItemAt l j >>= fun r => pure (r.map (j, ·))) >>= _) _ _ s
 refine wpAny_bind (wpAny_bind (wpAny_seqItemAt e rfl (wpAny_pure ?_)))
 rw [List.getElem?_toArray, List.getElem?_eq_getElem hj]
 show wpAny _ _ (setSeqItemAt l j x >>= _) _ _ s
 refine wpAny_bind (wpAny_setSeqItemAt e rfl ?_)
 exact wpAny_pure ⟨.none, rfl, wpAny_pure (fin ())⟩
theorem setIOK (hA : Roomy A) {N : Nt} {ρ : Fr} {vs : List V} {x y z : Value} {Qc : Unit -> Shared -> Prop} (q : SetIW N ρ σ vs) (I : Inv w.params G g₀ s.heap σ π) (r : V2 G s.heap π vs y x) (rv : V1 G s.heap π vs.tail.tail z) (k : KontU w.params G g₀ s π (N ρ) (Qc ())) :
  wpAny (model prog w) A (setItem x y z) Qc E s := by
 induction q with
 | mk hs q' q =>
  obtain ⟨ri, ra⟩ := r
  induction q' with
  | list hi hb =>
   subst hi
   obtain ⟨u, rfl⟩ := ri.int_inv
   induction I.list ra hs with
   | mk p hz e r =>
   have hb := Nat.le_of_ble_eq_true hb
   exact list_setOK e (Int.natCast_nonneg _) (Int.ofNat_lt.mpr (Nat.lt_of_lt_of_eq hb r.length)) (lt_of_lim (Nat.le_trans (Nat.le_of_lt hb) hz)) fun h' m' other e' => k.setAt I q p (.head _) hs other e e' rfl fun S => .list (by rw [List.length_set]; exact hz) e' ((r.set _ rv).step I S)
  | dict ko hb e =>
   subst e
   induction I.dict ra hs with
   | mk p hz e R K =>
   have hb := Nat.le_of_ble_eq_true hb
   exact setItem_dictOK hA e R K ko ri rv hb fun h' es' n' tk other e' R' K' hl => k.setAt I q p (.head _) hs other e e' rfl fun S => .dict (Nat.le_trans hl hb) e' (R'.step I S) K'
theorem list_appendOK {l : Addr} {vs : List Value} {m : Nat} {x : Value} (e : s.heap.get? l = some (lstO vs m)) (hz : vs.length < lim)
  (h : ∀ h' m', (∀ c, c ≠ l -> h'.get? c = s.heap.get? c) -> h'.get? l = some (lstO (vs ++ [x]) m') -> Qc .none { s with heap := h' }) :
  wpAny (model prog w) A (call (.builtin "list.append") [.ref l, x]) Qc E s := by
 refine wpAny_call_entry PySem.slot_list_append ⟨_, e, rfl⟩ PySem.entry_list_append ?_ (PySem.args_list_append _ _)
 show wpAny _ _ (updateSeq l (·.push x) >>= fun _ => ret .none) _ _ s
 have hz' := lim_le
 refine wpAny_bind (wpAny_updateSeq e rfl (wpAny_pure ⟨.none, rfl, h _ (m + 1) (fun c hc => Heap.get?_update_ne _ _ _ _ hc) ?_⟩) (by rw [List.size_toArray]; omega) (by simp; omega))
 rw [Heap.get?_update_self _ e rfl]
 simp [Obj.mapSeq]
theorem list_popOK {l : Addr} {vs : List Value} {m : Nat} {x : Value} (e : s.heap.get? l = some (lstO vs m)) (hz : vs.length ≤ lim) (hx : vs.getLast? = some x)
  (h : ∀ h' m', (∀ c, c ≠ l -> h'.get? c = s.heap.get? c) -> h'.get? l = some (lstO vs.dropLast m') -> Qc x { s with heap := h' }) :
  wpAny (model prog w) A (call (.builtin "list.pop") [.ref l]) Qc E s := by
 have hv : vs ≠ [] := by rintro rfl; simp at hx
 have hn : 0 < vs.length := List.length_pos_iff.mpr hv
 have hy : vs.toArray[vs.toArray.size - 1]? = some x := by rw [List.size_toArray, List.getElem?_toArray, <- List.getLast?_eq_getElem?]; exact hx
 refine call_meets PySem.F.slot_list_pop ⟨_, e, rfl⟩ PySem.F.entry_list_pop (PySem.F.args_list_pop_1 _) (MeetsSeq.list_pop_last l vs.toArray m x hy (by rw [List.size_toArray]; exact Nat.le_trans hz lim_le)) ⟨e, ?_⟩
 refine h _ (m + 1) (fun c hc => Heap.get?_update_ne _ _ _ _ hc) ?_
 rw [Heap.get?_update_self _ e rfl]
 have e1 : vs.toArray.eraseIdxIfInBounds (vs.length - 1) = vs.dropLast.toArray := by
  simp [Array.eraseIdxIfInBounds, hn]
  intro hh; omega
 have e2 : (vs.dropLast.length == vs.length) = false := by simp; omega
 simp only [Obj.mapSeq, List.size_toArray, e1, e2]
 rfl
end
section
variable {prog : Program} {w : World} {G : Gl} {g₀ : Heap} {A : Around} {E : Value -> Shared -> Prop} {s : Shared} {σ : St} {π : Pi} {Q : Post} {Qc : Value -> Shared -> Prop}
theorem list_sliceOK {l sl : Addr} {vs : List Value} {m : Nat} {k : Sl} {a b c : Value} (e : s.heap.get? l = some (lstO vs m)) (hp : SlParts k a b c) (es : s.heap.get? sl = some (slO a b c)) (hz : vs.length ≤ lim)
  (h : Qc (.ref s.heap.objs.size) { s with heap := s.heap.push (lstO (k.f vs) 0) }) : wpAny (model prog w) A (getItem (.ref l) (.ref sl)) Qc E s := by
 have hl : s.heap.IsList l vs.toArray := ⟨_, e, rfl, m, rfl⟩
 have hz' : vs.toArray.size ≤ sizeLine := by rw [List.size_toArray]; exact Nat.le_trans hz lim_le
 cases hp with
 | upto i t =>
  refine wpAny_getItem_list_slice hl ⟨_, es, rfl, rfl⟩ .none (.int (i : Int) t) .none (by simp) ?_ hz'
  rw [slicePick_upto']
  exact h
 | from' i t =>
  refine wpAny_getItem_list_slice hl ⟨_, es, rfl, rfl⟩ (.int (i : Int) t) .none .none (by simp) ?_ hz'
  rw [slicePick_from']
  exact h
 | all =>
  refine wpAny_getItem_list_slice hl ⟨_, es, rfl, rfl⟩ .none .none .none (by simp) ?_ hz'
  rw [slicePick_all]
  exact h
 | rev t =>
  refine wpAny_getItem_list_slice hl ⟨_, es, rfl, rfl⟩ .none .none (.int (-1) t) (by simp) ?_ hz'
  rw [krv_pick]
  exact h
theorem and_tt {a b : Bool} (h : (a && b) = true) : a = true /\ b = true := (Bool.and_eq_true a b).mp h
noncomputable def Sl.go (k : Sl) (n : Nat) : Int × Int × Nat := Sl.casesOn k (fun i => (((0 : Nat) : Int), 1, min i n)) (fun i => (((min i n : Nat) : Int), 1, n - min i n)) (((0 : Nat) : Int), 1, n) ((n : Int) - 1, -1, n)
theorem places_up {a b : Nat} (h : a ≤ b) : Builtin.Slice.slicePlaces (a : Int) (b : Int) 1 = b - a := by
 unfold Builtin.Slice.slicePlaces
 rw [if_pos (by decide)]
 rcases Nat.lt_or_eq_of_le h with g | rfl
 ·rw [if_pos (Int.ofNat_lt.mpr g), Int.ediv_one, Int.sub_add_cancel]; exact Int.toNat_sub b a
 ·rw [if_neg (Int.lt_irrefl _), Nat.sub_self]; rfl
theorem places_dn (n : Nat) : Builtin.Slice.slicePlaces ((n : Int) - 1) (-1) (-1) = n := by
 unfold Builtin.Slice.slicePlaces
 rw [if_neg (by decide), show (n : Int) - 1 - -1 - 1 = n - 1 by omega, Int.neg_neg, Int.ediv_one, Int.sub_add_cancel]
 cases n with
 | zero => rfl
 | succ n => rw [if_pos (by omega)]; rfl
theorem adj_up (i n : Nat) : Builtin.Slice.sliceAdjust none (some (i : Int)) 1 (n : Int) = (((0 : Nat) : Int), ((min i n : Nat) : Int)) := by
 unfold Builtin.Slice.sliceAdjust
 rw [if_neg (show ¬ (1 : Int) < 0 by decide)]
 dsimp only
 rw [if_neg (show ¬ (1 : Int) < 0 by decide), if_neg (Int.not_lt.mpr (Int.natCast_nonneg i)), Lean.Omega.Int.ofNat_min]; rfl
theorem adj_from (i n : Nat) : Builtin.Slice.sliceAdjust (some (i : Int)) none 1 (n : Int) = (((min i n : Nat) : Int), (n : Int)) := by
 unfold Builtin.Slice.sliceAdjust
 rw [if_neg (show ¬ (1 : Int) < 0 by decide)]
 dsimp only
 rw [if_neg (show ¬ (1 : Int) < 0 by decide), if_neg (Int.not_lt.mpr (Int.natCast_nonneg i)), Lean.Omega.Int.ofNat_min]; rfl
noncomputable def pick (vs : List Value) (p : Int × Int × Nat) : List Value := (List.range p.2.2).filterMap fun (k : Nat) => vs.toArray[(p.1 + (k : Int) * p.2.1).toNat]?
theorem pick_up (vs : List Value) (a n : Nat) : pick vs ((a : Int), 1, n) = (vs.drop a).take n := by
 have e : (fun (k : Nat) => vs.toArray[((a : Int) + (k : Int) * 1).toNat]?) = fun k => vs.toArray[a + k]? := by
  funext k
  rw [Int.mul_one]; rfl
 have h := pick_run vs.toArray a n
 rw [List.filterMap_map] at h
 exact (congrArg (fun f => List.filterMap f (List.range n)) e).trans h
theorem fm_congr {α β : Type} {f g : α -> Option β} (l : List α) (h : ∀ a ∈ l, f a = g a) : l.filterMap f = l.filterMap g := by
 induction l with
 | nil => rfl
 | cons a l ih => rw [List.filterMap_cons, List.filterMap_cons, h a (.head _), ih fun b hb => h b (.tail _ hb)]
theorem pick_dn (vs : List Value) : pick vs ((vs.length : Int) - 1, -1, vs.length) = vs.reverse := by
 refine Eq.trans (fm_congr (g := (vs.reverse.toArray[·]?)) _ fun k hk => ?_) ((congrArg (fun n => List.filterMap (vs.reverse.toArray[·]?) (List.range n)) ((List.size_toArray).trans List.length_reverse).symm).trans (krv_all vs.reverse.toArray))
 have hk := List.mem_range.mp hk
 rw [List.getElem?_toArray, List.getElem?_toArray, List.getElem?_reverse hk, Int.mul_neg, Int.mul_one, <- Int.sub_eq_add_neg, Int.sub_sub, show ((vs.length : Int) - (1 + (k : Int))).toNat = vs.length - (1 + k) from Int.toNat_sub _ _, Nat.sub_add_eq]
theorem pick_go (k : Sl) (vs : List Value) : pick vs (k.go vs.length) = k.f vs /\ (((k.go vs.length).1 == 0 && (k.go vs.length).2.1 == 1 && (k.go vs.length).2.2 == vs.length) = true -> k.f vs = vs) := by
 have tk : ∀ i, vs.take (min i vs.length) = vs.take i := fun i => by rw [<- List.take_take, List.take_of_length_le (Nat.le_refl _)]
 cases k with
 | upto i =>
  refine ⟨(pick_up vs 0 _).trans (tk i), fun h => ?_⟩
  have h := beq_iff_eq.mp (and_tt h).2
  exact (tk i).symm.trans (by rw [show min i vs.length = vs.length from h, List.take_of_length_le (Nat.le_refl _)])
 | from' i =>
  have dr : vs.drop (min i vs.length) = vs.drop i := by
   rcases Nat.le_total i vs.length with q | q
   ·rw [Nat.min_eq_left q]
   ·rw [Nat.min_eq_right q, List.drop_of_length_le (Nat.le_refl _), List.drop_of_length_le q]
  refine ⟨(pick_up vs _ _).trans (by rw [<- List.length_drop, List.take_of_length_le (Nat.le_refl _)]; exact dr), fun h => ?_⟩
  have h : ((min i vs.length : Nat) : Int) = 0 := beq_iff_eq.mp (and_tt (and_tt h).1).1
  exact dr.symm.trans (by rw [Int.ofNat_eq_zero.mp h]; rfl)
 | all => exact ⟨(pick_up vs 0 _).trans (List.take_of_length_le (Nat.le_refl _)), fun _ => rfl⟩
 | rev => exact ⟨pick_dn vs, fun h => by have := (and_tt (and_tt h).1).2; cases this⟩
theorem sliceAppliedOK {sl : Addr} {k : Sl} {a b c : Value} {n : Nat} {Q : Int × Int × Nat -> Shared -> Prop} (hp : SlParts k a b c) (es : s.heap.get? sl = some (slO a b c)) (h : Q (k.go n) s) :
  wpAny (model prog w) A (Builtin.Slice.sliceApplied (.ref sl) (pure (n : Int))) Q E s := by
 unfold Builtin.Slice.sliceApplied Builtin.Slice.sliceFields
 refine wpAny_bind (wpAny_bind (wpAny_field es rfl (x := a) rfl (wpAny_bind (wpAny_field es rfl (x := b) rfl (wpAny_bind (wpAny_field es rfl (x := c) rfl (wpAny_pure ?_)))))))
 have fin : ∀ {lo hi : Int} {st : Int} {p : Int × Int} (m : Nat), p = (lo, hi) -> Builtin.Slice.slicePlaces lo hi st = m -> Q (lo, st, m) s -> wpAny (model prog w) A (match p with | (lo, hi) => pure (lo, st, Builtin.Slice.slicePlaces lo hi st)) Q E s := fun m e1 e2 q => by subst e1 e2; exact wpAny_pure q
 induction hp with
 | upto i t => exact wpAny_bind (slicePart_none (wpAny_bind (slicePart_none (wpAny_bind (slicePart_int (wpAny_bind (wpAny_pure (fin _ (adj_up i n) ((places_up (Nat.zero_le _)).trans (Nat.sub_zero _)) h))))))))
 | from' i t => exact wpAny_bind (slicePart_none (wpAny_bind (slicePart_int (wpAny_bind (slicePart_none (wpAny_bind (wpAny_pure (fin _ (adj_from i n) (places_up (Nat.min_le_right _ _)) h))))))))
 | all => exact wpAny_bind (slicePart_none (wpAny_bind (slicePart_none (wpAny_bind (slicePart_none (wpAny_bind (wpAny_pure (fin _ rfl ((places_up (Nat.zero_le _)).trans (Nat.sub_zero _)) h))))))))
 | rev t => exact wpAny_bind (slicePart_int (wpAny_bind (slicePart_none (wpAny_bind (slicePart_none (wpAny_bind (wpAny_pure (fin _ rfl (places_dn n) h))))))))
noncomputable def tupTail (t : Value) (xs : Array Value) (lo step : Int) (n : Nat) : Sem Fin := do
 if lo == 0 && step == 1 && n == xs.size then
  if <- Builtin.Tuple.tupleIsExact t then rule "tuple.getitem.whole"; return <- ret t
 return <- ret (<- Builtin.Tuple.tupleExact ((List.range n).filterMap fun (k : Nat) => xs[(lo + (k : Int) * step).toNat]?).toArray)
theorem tup_sliceOK {t sl : Addr} {vs : List Value} {k : Sl} {a b c : Value} (e : s.heap.get? t = some (tupO vs)) (hp : SlParts k a b c) (es : s.heap.get? sl = some (slO a b c)) (hz : vs.length ≤ lim)
  (h0 : k.f vs = vs -> Qc (.ref t) s) (h : Qc (.ref s.heap.objs.size) { s with heap := s.heap.push (tupO (k.f vs)) }) : wpAny (model prog w) A (getItem (.ref t) (.ref sl)) Qc E s := by
 have ht : IsTup s.heap t vs.toArray := ⟨_, e, rfl, 0, rfl⟩
 have hTs : s.TypeIs (.ref sl) "slice" := ⟨_, es, rfl⟩
 have hsz : sizeOk (.seq (k.f vs).toArray) := by
  show (k.f vs).toArray.size ≤ sizeLine
  rw [List.size_toArray]
  exact Nat.le_trans (Nat.le_trans (k.len vs) hz) lim_le
 unfold getItem
 refine wpAny_holding (wpAny_bind (wpAny_sequenceKey ht.typeIs (by decide) ?_))
 refine wpAny_bind (wpAny_callSpecial?_slot (name := Str.ofString "__getitem__") ht.typeIs PyProof.Rows.slot_tuple_getitem
  (wpAny_call_entry PyProof.Rows.slot_tuple_getitem ht.typeIs PyProof.Rows.entry_tuple_getitem ?_ (PyProof.Rows.args_tuple_getitem _ _)))
 show wpAny _ _ (Builtin.Tuple.tupleItemsOf (.ref t) >>= _) _ _ s
 refine wpAny_bind (tupleItemsOf_ ht ?_)
 refine wpAny_bind (wpAny_typeOf hTs ?_)
 rw [if_pos (by decide)]
 refine wpAny_bind (sliceAppliedOK hp es ?_)
 obtain ⟨p1, p2⟩ := pick_go k vs
 show wpAny _ _ (tupTail (.ref t) vs.toArray (k.go vs.length).1 (k.go vs.length).2.1 (k.go vs.length).2.2) _ _ s
 unfold tupTail
 by_cases hc : ((k.go vs.length).1 == 0 && (k.go vs.length).2.1 == 1 && (k.go vs.length).2.2 == vs.toArray.size) = true
 ·rw [if_pos hc]
  refine wpAny_bind ?_
  unfold Builtin.Tuple.tupleIsExact
  refine wpAny_bind (wpAny_typeOf ht.typeIs (wpAny_pure ?_))
  rw [if_pos (by decide)]
  exact wpAny_bind (wpAny_rule (wpAny_pure ⟨_, rfl, wpAny_pure (h0 (p2 (by rw [List.size_toArray] at hc; exact hc)))⟩))
 ·rw [if_neg hc]
  show wpAny _ _ (Builtin.Tuple.tupleExact (pick vs (k.go vs.length)).toArray >>= fun v => ret v) _ _ s
  rw [p1]
  exact wpAny_bind (m := Builtin.Tuple.tupleExact _) (wpAny_newObj_type (wpAny_pure ⟨_, rfl, wpAny_pure h⟩) hsz)
theorem sliceOK {K : Kt} {ρ : Fr} {vs : List V} {k : Sl} {x c1 c2 c3 : Value} {sl : Addr} (q : SliceW k.f K ρ σ vs) (I : Inv w.params G g₀ s.heap σ π) (r : V1 G s.heap π vs x) (hp : SlParts k c1 c2 c3) (es : s.heap.get? sl = some (slO c1 c2 c3)) (kk : Kont w.params G g₀ s π (fun v σ' => K ρ σ' (v :: vs.tail)) Qc) : wpAny (model prog w) A (getItem x (.ref sl)) Qc E s := by
 induction q with
 | tup q =>
  induction VR.tup_is r with
  | mk e r' hlt => exact tup_sliceOK e hp es (by rw [<- r'.length]; exact hlt) (fun h0 => kk.now I q (.tup' e (Nat.le_trans (k.len _) hlt) (h0 ▸ r'.sl k))) (kk.pushTup I q (Nat.le_trans (k.len _) hlt) (r'.sl k) _)
 | rol q =>
  obtain ⟨ex, hl, m, hn, r⟩ := VR.rol_is r
  rw [ex]
  have hn := Nat.le_trans hn (show 1000 ≤ lim by decide)
  exact list_sliceOK hl hp es hn (kk.newList I q (fun b o e => Heap.get?_push_of_some _ e) (I.none_size' (Nat.le_refl _)) (Heap.get?_push_size _ rfl) (Nat.le_trans (k.len _) (r.length ▸ hn)) (r.sl k))
 | list hs q =>
  induction I.list r hs with
  | mk p hz e r' => exact list_sliceOK e hp es (by rw [<- r'.length]; exact hz) (kk.newList I q (fun b o e => Heap.get?_push_of_some _ e) (I.none_size' (Nat.le_refl _)) (Heap.get?_push_size _ rfl) (Nat.le_trans (k.len _) hz) (r'.sl k))
end
theorem atNm_nodup : atNm.Nodup := by decide +kernel
theorem At.nm_inj {a b : At} (ha : a < nAt) (hb : b < nAt) (h : a.nm = b.nm) : a = b := by
 have e : atNm.length = nAt := by decide +kernel
 have g : ∀ {a : At}, a < nAt -> atNm[a]? = some a.nm := fun h => by
  show _ = some (atNm.getD _ "")
  rw [List.getD_eq_getElem?_getD, List.getElem?_eq_getElem (e ▸ h)]; rfl
 exact (List.getElem?_inj (e ▸ ha) atNm_nodup).mp (by rw [g ha, g hb, h])
structure ClOK (K : Frag) (G : Gl) : Prop where
 dict : ∀ c : Cl, c.init.isSome = true -> hasDictIn K (G.cl c) = true /\ plainOver K (G.cl c) = true /\ plainGet K (G.cl c) (Str.ofString "x") = true
 sets : ∀ c : Cl, c.init.isSome = true -> findIn K (.ref (G.cl c)) "__setattr__" = some (some (.builtin "object.__setattr__"))
 attr : ∀ (c : Cl) (n : At), c.init.isSome = true -> n < nAt -> (Nat.beq c Cl.Paths && Nat.beq n At.kind) = false -> findIn K (.ref (G.cl c)) (Str.ofString n.nm) = some none
 meth : ∀ (c : Cl) (m : Me) (f : Fn), c.meth m = some f -> f < nFn /\ findIn K (.ref (G.cl c)) (Str.ofString m.nm) = some (some (.ref (G.fn f)))
 fns : ∀ f : Fn, f < nFn -> isFn K (.ref (G.fn f)) = true /\ keepIn K (.ref (G.fn f)) = true
 made : ∀ (c : Cl) (f : Fn), c.init = some f -> f < nFn /\ makesIn K (G.cl c) = true /\ findIn K (.ref (G.cl c)) "__init__" = some (some (.ref (G.fn f))) /\ keepIn K (.ref (G.cl c)) = true
section
variable {P : Params} {G : Gl} {h : Heap} {π : Pi} {fs : List (At × V)} {es : List DictEntry}
theorem FR.length (x : FR P G h π fs es) : es.length = fs.length := by induction x with | nil => rfl | cons _ _ _ ih => exact congrArg Nat.succ ih
theorem isStr_nm {n m : At} {t : Tok} (hn : n < nAt) (hm : m < nAt) : (Value.str (Str.ofString n.nm) t).isStr (Str.ofString m.nm) = Nat.beq n m := by
 show (Str.ofString n.nm == Str.ofString m.nm) = _
 rw [ofString_beq]
 by_cases e : n = m
 ·subst e; rw [beq_self_eq_true]; exact (Nat.beq_refl n).symm
 ·rw [beq_eq_false_iff_ne.mpr fun z => e (At.nm_inj hn hm z)]
  exact (Bool.eq_false_iff.mpr fun z => e (Nat.eq_of_beq_eq_true z)).symm
theorem FR.get (x : FR P G h π fs es) {n : At} {v : V} (hn : n < nAt) (e : fget fs n = some v) : ∃ y, getL (Str.ofString n.nm) es = some (some y) /\ VR G h π v y := by
 induction x with
 | nil => cases e
 | @cons m u t y fs es hm a r ih =>
  have e : (if Nat.beq m n = true then some u else fget fs n) = some v := e
  by_cases c : Nat.beq m n = true
  ·rw [if_pos c] at e; cases e
   refine ⟨y, ?_, a⟩
   unfold getL
   rw [List.find?_cons_of_pos (by rw [isStr_nm hm hn]; exact c)]
  ·rw [if_neg c] at e
   obtain ⟨z, h1, h2⟩ := ih e
   refine ⟨z, ?_, h2⟩
   unfold getL at h1 ⊢
   rw [List.find?_cons_of_neg (by rw [isStr_nm hm hn]; exact c)]
   cases q : es.find? (fun e => e.key.isStr (Str.ofString n.nm)) with
   | some e => rw [q] at h1; exact h1
   | none =>
    rw [q] at h1
    dsimp only at h1
    split at h1 <;> cases h1
theorem FR.noRef (x : FR P G h π fs es) : es.any (·.refKey) = false := by
 induction x with
 | nil => rfl
 | cons _ a r ih => rw [List.any_cons, ih]; rfl
theorem FR.getNone (x : FR P G h π fs es) {s : Str} (hs : ∀ e ∈ fs, Str.ofString e.1.nm ≠ s) : getL s es = some none := by
 have hf : es.find? (fun e => e.key.isStr s) = none := by
  induction x with
  | nil => rfl
  | @cons m u t y fs es hm a r ih =>
   rw [List.find?_cons_of_neg, ih fun e he => hs e (.tail _ he)]
   show ¬ ((Str.ofString m.nm == s) = true)
   simpa using hs _ (.head _)
 unfold getL
 rw [hf]
 dsimp only
 rw [x.noRef]
 rfl
theorem FR.isSome (x : FR P G h π fs es) (s : Str) : (getL s es).isSome = true := by
 unfold getL
 split
 ·rfl
 ·rw [x.noRef]; rfl
theorem FR.put (x : FR P G h π fs es) {n : At} {v : V} {t : Tok} {y : Value} (hn : n < nAt) (r : VR G h π v y) : FR P G h π (fput fs n v) (putL (Str.ofString n.nm) (PyData.keyHash P (Str.ofString n.nm)) (.str (Str.ofString n.nm) t) y es) := by
 induction x with
 | nil => exact .cons hn r .nil
 | @cons m u t' z fs es hm a q ih =>
  unfold fput putL
  simp only [isStr_nm hm hn]
  by_cases c : Nat.beq m n = true
  ·rw [if_pos c, if_pos c]; exact .cons hm r q
  ·rw [if_neg c, if_neg c]; exact .cons hm a ih
theorem fput_len (fs : List (At × V)) (n : At) (v : V) : (fput fs n v).length ≤ fs.length + 1 := by
 induction fs with
 | nil => simp [fput]
 | cons a r ih => obtain ⟨m, u⟩ := a; unfold fput; split <;> simp <;> omega
theorem fput_keys (fs : List (At × V)) (n : At) (v : V) : ∀ k, k ∈ (fput fs n v).map (·.1) -> k ∈ fs.map (·.1) ∨ k = n := by
 induction fs with
 | nil => simp [fput]
 | cons a r ih =>
  obtain ⟨m, u⟩ := a
  unfold fput
  intro k hk
  split at hk
  ·rename_i e; exact .inl (by simpa using hk)
  ·simp only [List.map_cons, List.mem_cons] at hk ⊢
   rcases hk with hk | hk
   ·exact .inl (.inl hk)
   ·rcases ih k hk with q | q
    ·exact .inl (.inr q)
    ·exact .inr q
theorem fput_nodup (fs : List (At × V)) (n : At) (v : V) (h : (fs.map (·.1)).Nodup) : ((fput fs n v).map (·.1)).Nodup := by
 induction fs with
 | nil => exact List.nodup_cons.mpr ⟨List.not_mem_nil, List.nodup_nil⟩
 | cons a r ih =>
  obtain ⟨m, u⟩ := a
  rw [List.map_cons, List.nodup_cons] at h
  unfold fput
  split
  ·rw [List.map_cons, List.nodup_cons]; exact h
  ·rename_i e
   rw [List.map_cons, List.nodup_cons]
   refine ⟨fun q => ?_, ih h.2⟩
   rcases fput_keys r n v m q with q | q
   ·exact h.1 q
   ·exact e (q ▸ Nat.beq_refl m)
end
section
variable {prog : Program} {w : World} {K : Frag} {G : Gl} {g₀ : Heap} {A : Around} {E : Value -> Shared -> Prop} {s : Shared} {σ : St} {π : Pi} {Q : Post} {Qc : Value -> Shared -> Prop}
theorem biV_ok : ∀ b : Bi, handedIn (biV b) = true := fun b => match b with
 | 0 => by decide +kernel
 | 1 => by decide +kernel
 | 2 => by decide +kernel
 | 3 => by decide +kernel
 | 4 => by decide +kernel
 | n + 5 => by show handedIn .none = true; decide +kernel
theorem VR.handed {h : Heap} {v : V} {x : Value} (r : VR G h π v x) : handedIn x = true := by
 cases r with
 | bi b => exact biV_ok b
 | _ => rfl
theorem Inv.keepK (I : Inv w.params G g₀ s.heap σ π) (X : K.In g₀) : K.In s.heap := fun a o e => I.base a o (X a o e)
variable {Kk : Kt} {N : Nt} {ρ : Fr} {vs : List V}
theorem attrOK (C : ClOK K G) (X : K.In g₀) {n : At} {x : Value} {b : Bool} (hn : n < nAt) (q : AttrW n Kk ρ σ vs) (I : Inv w.params G g₀ s.heap σ π) (r : V1 G s.heap π vs x) (k : Kont w.params G g₀ s π (fun v σ' => Kk ρ σ' (v :: vs.tail)) Qc) :
  wpAny (model prog w) A (getAttr x (Str.ofString n.nm) b) Qc E s := by
 induction q with
 | mk hs hv hc q =>
  induction I.inst r hs with
  | @mk a dx es m p e hl e2 F nd =>
  obtain ⟨y, g, ry⟩ := F.get hn hv
  obtain ⟨h1, h2, h3⟩ := C.dict _ hl.2
  exact get_value (od := some (dictOf es m)) (I.keepK X) ⟨e, rfl, rfl, e2⟩ (plainGet_of (name := Str.ofString "x") h3).1 (findObj_own h1 (C.attr _ n hl.2 hn hc) rfl g) ry.handed (k.here I q ry _)
theorem setAOK (C : ClOK K G) (X : K.In g₀) {x y : Value} {Qc : Unit -> Shared -> Prop} {n : At} (hn : n < nAt) (q : SetAW n N ρ σ vs) (I : Inv w.params G g₀ s.heap σ π) (r : V1 G s.heap π vs x) (rv : V1 G s.heap π vs.tail y) (k : KontU w.params G g₀ s π (N ρ) (Qc ())) :
  wpAny (model prog w) A (setAttr x (Str.ofString n.nm) y) Qc E s := by
 induction q with
 | @mk kk cl fs fs' v vs hs hz hp hc q =>
  subst hp
  have rv : VR G s.heap π v y := rv
  induction I.inst r hs with
  | @mk c dx es m p e hl e2 F nd =>
  have hz := Nat.le_of_ble_eq_true hz
  have fl := Nat.le_trans (fput_len fs n v) hz
  obtain ⟨h1, h2, h3⟩ := C.dict cl hl.2
  have XK := I.keepK X
  have II : InstAt s.heap c (instObj (G.cl cl) dx) (G.cl cl) (some (dictOf es m)) := ⟨e, rfl, rfl, e2⟩
  have ht : takerIn K (G.cl cl) (Str.ofString n.nm) = some none := by unfold takerIn; rw [C.attr cl n hl.2 hn hc]; rfl
  refine set_plain XK II (C.sets cl hl.2) (osa_open (s := { s with toks := s.toks + 1 }) XK II h2 ht fun bb => ?_)
  obtain ⟨cd, hcd, hhd⟩ := any_some h1
  refine wpAny_bind (wpAny_pure (wpAny_bind (wpAny_bind (wpAny_loadPart e (wpAny_bind (looks_clsIn XK hcd _ _ _ _ (fun _ _ z => z) ?_))))))
  rw [hhd]
  refine wpAny_pure (a := some dx) (wpAny_bind (wpAny_pure (wpAny_bind ?_)))
  unfold nsSet
  refine wpAny_bind (wpAny_bind (wpAny_askSetting (wpAny_pure (wpAny_bind (wpAny_mkText (wpAny_bind (wpAny_loadPart e2 ?_)))))))
  dsimp only
  rw [show aRefKeyMayBeTheName (Str.ofString n.nm) es.toArray = false by rw [aRefKeyMayBeTheName_at, <- Array.any_toList, <- Array.any_toList, F.noRef, Bool.and_false]]
  have e3 : ∀ tk, (s.heap.update dx (Obj.putName (Str.ofString n.nm) (PyData.keyHash w.params (Str.ofString n.nm)) (.str (Str.ofString n.nm) tk) y)).get? dx = some (dicO (putL (Str.ofString n.nm) (PyData.keyHash w.params (Str.ofString n.nm)) (.str (Str.ofString n.nm) tk) y es) (putN (Str.ofString n.nm) es m)) := fun tk => by
   have put := putName_dict (Str.ofString n.nm) (PyData.keyHash w.params (Str.ofString n.nm)) (.str (Str.ofString n.nm) tk) y es m
   exact (Heap.get?_update_self _ e2 (congrArg Obj.isFreed put)).trans (congrArg some put)
  refine wpAny_updatePart e2 (wpAny_bind (wpAny_lookBehind (e3 _) (pastItsLine_dict ?_) ?_))
  ·rw [List.size_toArray, (F.put hn rv).length]; exact Nat.le_trans fl (by rw [sizeLine_eq]; decide)
  ·exact wpAny_pure (k.setAt I q p (.tail _ (.head _)) hs (fun c' hc' => Heap.get?_update_ne _ _ _ _ hc') e2 (e3 _) rfl fun S => .inst ((Heap.get?_update_ne _ _ _ _ (fun z => by rw [z, e2] at e; cases e)).trans e) ⟨fl, hl.2⟩ (e3 _) ((F.put hn rv).step I S) (fput_nodup fs n v nd))
end
section
variable {prog : Program} {w : World} {K : Frag} {G : Gl} {g₀ : Heap} {A : Around} {E : Value -> Shared -> Prop} {s : Shared} {σ : St} {π : Pi} {Q : Post} {Qc : Value -> Shared -> Prop}
theorem empty_len {α β : Type} {l : List α} {m : List β} (h : l.length = m.length) : l.isEmpty = m.isEmpty := by
 cases l with
 | nil => rw [List.eq_nil_of_length_eq_zero h.symm]; rfl
 | cons _ _ => cases m with
  | nil => cases h
  | cons _ _ => rfl
theorem truthOK {Q : Bool -> Shared -> Prop} {v : V} {x : Value} {t : Bool} (q : TrW σ v t) (I : Inv w.params G g₀ s.heap σ π) (r : VR G s.heap π v x) (k : ∀ tk, Q t { s with toks := tk }) :
  wpAny (model prog w) A (truthy x) Q E s := by
 induction q with
 | none => rw [r.none_inv]; exact wpAny_pure (k s.toks)
 | bool b => rw [show x = _ from r.inv]; exact wpAny_truthy_bool (k s.toks)
 | @int i t e =>
  obtain ⟨u, er⟩ := r.int_inv
  rw [er]
  refine PyProof.Rows.truthy_int ?_
  rw [show (i != 0) = decide (i ≠ 0) from by by_cases h : i = 0 <;> simp [h], e]
  exact k s.toks
 | @list n l t hs e =>
  subst e
  induction I.list r hs with
  | @mk a vs n p hl e rv =>
  refine wpAny_truthy_list (items := vs.toArray) ⟨_, e, rfl, n, rfl⟩ (by rw [List.size_toArray, <- rv.length]; exact lt_of_lim hl) ?_
  rw [show (!vs.toArray.isEmpty) = (!l.isEmpty) from by rw [List.isEmpty_toArray, <- empty_len rv.length]]
  exact k (s.toks + 1 + 1)
theorem ints_eq (lo : Int) (n : Nat) : intsL lo n = (List.range n).map fun (i : Nat) => V.int (lo + i) := by
 induction n generalizing lo with
 | zero => rfl
 | succ n ih =>
  rw [List.range_succ_eq_map]
  show V.int lo :: intsL (lo + 1) n = _
  rw [ih]
  simp only [List.map_cons, List.map_map, List.cons.injEq]
  refine ⟨by simp, List.map_congr_left fun i _ => ?_⟩
  simp only [Function.comp, V.int.injEq, Nat.succ_eq_add_one, Int.natCast_add]; omega
theorem small_range {a b : Int} (ha : fit a) (hb : fit b) : Builtin.Range.small a b 1 = true := by
 unfold Builtin.Range.small
 have hr := rangeSize_nat a b
 unfold fit at ha hb
 obtain ⟨a1, a2⟩ := ha; obtain ⟨b1, b2⟩ := hb
 simp [big, Builtin.Range.rangeFitsLong] at *
 rw [hr]
 omega
theorem VRs.one {h : Heap} {v : V} {xs : List Value} (r : VRs G h π [v] xs) : ∃ x, xs = [x] /\ VR G h π v x := by
 obtain ⟨x, xs', rfl, a, b⟩ := r.uncons
 rw [b.unnil]
 exact ⟨x, rfl, a⟩
theorem VRs.two {h : Heap} {v u : V} {xs : List Value} (r : VRs G h π [v, u] xs) : ∃ x y, xs = [x, y] /\ VR G h π v x /\ VR G h π u y := by
 obtain ⟨x, xs', rfl, a, b⟩ := r.uncons
 obtain ⟨y, rfl, c⟩ := b.one
 exact ⟨x, y, rfl, a, c⟩
variable {Kk : Kt} {ρ : Fr} {us : List V}
theorem biOK (hA : Roomy A) (T : TbOK prog w G g₀) {b : Bi} {vs : List V} {xs : List Value} (q : BiW Kk ρ σ us b vs) (I : Inv w.params G g₀ s.heap σ π) (r : VRs G s.heap π vs xs) (k : Kont w.params G g₀ s π (fun v σ' => Kk ρ σ' (v :: us)) Qc) :
  wpAny (model prog w) A (call (biV b) xs) Qc E s := by
 induction q with
 | lenT q =>
  obtain ⟨x1, rfl, ra⟩ := r.one
  induction ra.tup_is with
  | @mk a ys e ry hl =>
  refine PyProof.Rows.len_tuple (items := ys.toArray) ⟨_, e, rfl, 0, rfl⟩ (by rw [List.size_toArray, <- ry.length]; exact lt_of_lim hl) ?_
  rw [List.size_toArray, <- ry.length]
  exact k.here I q (.int _ _) _
 | len hs q' q =>
  obtain ⟨x1, rfl, ra⟩ := r.one
  induction q' with
  | list =>
   induction I.list ra hs with
   | @mk a ys n p hl e ry =>
   refine Calls.call_len_list (items := ys.toArray) ⟨_, e, rfl, n, rfl⟩ (by rw [List.size_toArray, <- ry.length]; exact lt_of_lim hl) ?_
   rw [List.size_toArray, <- ry.length]
   exact k.here I q (.int _ _) _
  | dict =>
   induction I.dict ra hs with
   | mk p hl e ry ko =>
   refine len_dictOK (not_sys T I (mem_addrs1 p)) e (ry.length ▸ hl) fun t tk => ?_
   rw [ry.length]
   exact k.here I q (.int _ _) _
 | rng1 f q =>
  obtain ⟨x1, rfl, ra⟩ := r.one
  obtain ⟨t, rfl⟩ := ra.int_inv
  refine PySem.call_range_1 (k.ext I q (fun b o e => Heap.get?_push_of_some _ e) fun S => .rng (t := s.toks) (u := t) (v := s.toks + 1) (Heap.get?_push_size _ rfl) (fit_l (by decide)) f)
 | rng2 f f' q =>
  obtain ⟨x1, x2, rfl, ra, rb⟩ := r.two
  obtain ⟨t, rfl⟩ := ra.int_inv
  obtain ⟨u, rfl⟩ := rb.int_inv
  refine PySem.call_range_2 (k.ext I q (fun b o e => Heap.get?_push_of_some _ e) fun S => .rng (t := t) (u := u) (v := s.toks) (Heap.get?_push_size _ rfl) f f')
 | tupT q =>
  obtain ⟨x1, rfl, ra⟩ := r.one
  have go := k.now I q ra
  induction ra.tup_is with
  | @mk a ys e ry hl => exact call_tuple_tup (items := ys.toArray) ⟨_, e, rfl, 0, rfl⟩ go
 | tupL hs q =>
  obtain ⟨x1, rfl, ra⟩ := r.one
  induction I.list ra hs with
  | @mk a ys n p hl e ry =>
  refine call_tuple_list (items := ys.toArray) ⟨_, e, rfl, n, rfl⟩ (fun h' hk => ?_) (by rw [List.size_toArray, <- ry.length]; exact Nat.le_trans hl lim_le)
  exact k.ext (h' := h'.push (tupO ys)) (t := s.toks) I q (fun b o z => Heap.get?_push_of_some _ (hk b o z)) fun S => .tup' (Heap.get?_push_size _ rfl) hl (ry.step I S)
 | @listR a b hl q =>
  obtain ⟨x1, rfl, ra⟩ := r.one
  have hl := Nat.le_of_ble_eq_true hl
  induction ra.rng_is with
  | @mk c t u v e fa fb =>
  have hlen : (rngL a b).length = (b - a).toNat := by rw [rngL, ints_eq, List.length_map, List.length_range]
  refine call_list_range (n := (b - a).toNat) hA.1 e (small_range fa fb) (rangeSize_nat a b) (Nat.le_trans (hlen ▸ hl) lim_le) fun h' tk acc c' hk ha hi => ?_
  obtain ⟨hi1, hi2⟩ := hi
  rw [show acc = acc.toList.toArray from rfl] at ha
  refine k.newList (vs := acc.toList) (t := tk) I q hk (I.none_size' (Nat.le_refl _)) ha hl ⟨by rw [hlen, Array.length_toList, hi1], fun i v x hv hx => ?_⟩
  obtain ⟨t, rfl⟩ := hi2 i x (by rw [<- hx]; exact Array.getElem?_toList.symm)
  rw [rngL, ints_eq, List.getElem?_map] at hv
  obtain ⟨j, hj, rfl⟩ := Option.map_eq_some_iff.mp hv
  have e := (List.getElem?_eq_some_iff.mp hj).2
  rw [List.getElem_range] at e
  rw [<- e, Int.mul_one]
  exact .int _ _
noncomputable def Me.bi (m : Me) : Option String := ["list.append", "list.pop", "dict.get", "dict.setdefault"][m]?
theorem methOK {R : Value × List Value -> Shared -> Prop} (C : ClOK K G) (X : K.In g₀) (T : TbOK prog w G g₀) {m : Me} {x : Value} {pl : Sem Bool} {vs : List V} (q : MOk m Kk ρ σ vs) (I : Inv w.params G g₀ s.heap σ π) (r : V1 G s.heap π vs x)
  (hb : ∀ id, m.bi = some id -> Kk ρ σ vs -> R (.builtin id, [x]) s) (hf : ∀ c f, Cl.meth c m = some f -> Kk ρ σ vs -> R (.ref (G.fn f), [x]) s) :
  wpAny (model prog w) A (getMethod x (Str.ofString m.nm) pl) R E s := by
 induction q with
 | append hs q =>
  have hb := hb _ rfl q
  clear hf
  induction I.list r hs with
  | mk p hl e ry => exact getMethod_builtin ⟨_, e, rfl⟩ PySem.F.plainAttrs_list PySem.slot_list_append rfl (fun b z => by cases z; exact ⟨_, e, rfl⟩) hb
 | pop hs q =>
  have hb := hb _ rfl q
  clear hf
  induction I.list r hs with
  | mk p hl e ry => exact getMethod_builtin ⟨_, e, rfl⟩ PySem.F.plainAttrs_list PySem.F.slot_list_pop rfl (fun b z => by cases z; exact ⟨_, e, rfl⟩) hb
 | get hs q =>
  have hb := hb _ rfl q
  clear hf
  induction I.dict r hs with
  | mk p hl e ry ko => exact getMethod_builtin ⟨_, e, rfl⟩ PySem.F.plainAttrs_dict PySem.F.slot_dict_get rfl (fun b z => by cases z; exact ⟨_, e, rfl⟩) hb
 | setdefault hs q =>
  have hb := hb _ rfl q
  clear hf
  induction I.dict r hs with
  | mk p hl e ry ko => exact getMethod_builtin ⟨_, e, rfl⟩ PySem.F.plainAttrs_dict PySem.F.slot_dict_setdefault rfl (fun b z => by cases z; exact ⟨_, e, rfl⟩) hb
 | tbl q =>
  have hb := hb _ rfl q
  clear hf
  obtain ⟨ht, rfl⟩ := VR.tbl_inv r
  obtain ⟨es, n, e, _⟩ := T.tab _ ht
  exact getMethod_builtin ⟨_, I.base _ _ e, rfl⟩ PySem.F.plainAttrs_dict PySem.F.slot_dict_get rfl (fun b z => by cases z; exact ⟨_, I.base _ _ e, rfl⟩) hb
 | inst hs hm q2 q =>
  have hf := hf _ _ hm q
  obtain ⟨hf1, hf2⟩ := C.meth _ _ _ hm
  clear hb
  induction I.inst r hs with
  | @mk a dx es m' p e hl e2 F nd =>
  obtain ⟨h1, h2, h3⟩ := C.dict _ hl.2
  obtain ⟨g1, g2⟩ := plainGet_of (name := Str.ofString "x") h3
  refine method_fn (od := some (dictOf es m')) (I.keepK X) ⟨e, rfl, rfl, e2⟩ g1 g2 hf2 (beq_iff_eq.mp (C.fns _ hf1).1) ?_ hf
  refine congrArg (Option.map (·.isSome)) (F.getNone fun e he z => ?_)
  have := (List.all_eq_true.mp q2) e he
  rw [ofString_inj z, beq_self_eq_true] at this
  cases this
end
structure Deep (n : Nat) (A : Around) : Prop where
 h : A.handled = none
 u : A.units + 40 * n + 300 < cLine
 d : A.depth + 5 * n < recursionLimit
theorem Deep.roomy {n : Nat} {A : Around} (D : Deep n A) : Roomy A := ⟨D.h, by have := D.u; omega⟩
theorem Deep.one {n : Nat} {A : Around} (D : Deep n A) : Deep n { A with units := A.units } := D
def SoundF (prog : Program) (w : World) (G : Gl) (g₀ : Heap) (n : Nat) (F : FnSem) : Prop :=
 ∀ (f : Fn) (vs : List V) (xs : List Value) (A : Around) (s : Shared) (σ : St) (π : Pi) (Q : Post) (R : Result -> Shared -> Prop), f < nFn -> Deep n A -> F f vs Q σ -> Inv w.params G g₀ s.heap σ π -> VRs G s.heap π vs xs ->
  Kont w.params G g₀ s π Q (fun x s' => R (.ok (.ret x)) s') -> codeAny (model prog w) A (.call (.ref (G.fn f)) ⟨xs, []⟩) R s
theorem typeCall_under {A : Around} {a : Addr} {xs : List Value} : (A.under (.builtin "type.__call__" ⟨.ref a :: xs, []⟩)).units ≤ A.units + 10 /\ (A.under (.builtin "type.__call__" ⟨.ref a :: xs, []⟩)).depth ≤ A.depth + 4 := by
 have hf : (Code.builtin "type.__call__" ⟨.ref a :: xs, []⟩).frames = 0 := by rfl
 have h1 : (Code.builtin "type.__call__" ⟨.ref a :: xs, []⟩).cUnits ≤ 10 := by
  show 1 + 3 * (Code.builtin "type.__call__" ⟨.ref a :: xs, []⟩).frames ≤ 10
  rw [hf]; decide
 have h2 : (Code.builtin "type.__call__" ⟨.ref a :: xs, []⟩).weight ≤ 4 := by
  unfold Code.weight
  rw [hf]
  have hg : (Code.builtin "type.__call__" ⟨.ref a :: xs, []⟩).isGuard = false := by
   show guardIds.contains "type.__call__" = false
   decide +kernel
  have hc : (Code.builtin "type.__call__" ⟨.ref a :: xs, []⟩).isCaller = false := by rfl
  rw [hg, hc]
  simp only [Bool.false_eq_true, if_false]
  split <;> omega
 exact ⟨Nat.add_le_add_left h1 _, Nat.add_le_add_left h2 _⟩
section
variable {prog : Program} {w : World} {K : Frag} {G : Gl} {g₀ : Heap} {A : Around} {E : Value -> Shared -> Prop} {s : Shared} {σ : St} {π : Pi} {Q : Post} {Qc : Value -> Shared -> Prop} {n : Nat} {F : FnSem}
variable {Kk : Kt} {ρ : Fr} {us : List V}
theorem clsOK (C : ClOK K G) (X : K.In g₀) (SF : SoundF prog w G g₀ n F) (D : Deep (n + 1) A) {c : Cl} {f : Fn} {vs : List V} {xs : List Value} (hf : c.init = some f) (q : F f (.loc σ.length :: vs) (fun r σ' => r = .none /\ Kk ρ σ' (.loc σ.length :: us)) (σ ++ [.inst c []]))
  (I : Inv w.params G g₀ s.heap σ π) (r : VRs G s.heap π vs xs) (k : Kont w.params G g₀ s π (fun v σ' => Kk ρ σ' (v :: us)) Qc) :
  wpAny (model prog w) A (call (.ref (G.cl c)) xs) Qc E s := by
 refine wpAny_call ?_
 obtain ⟨h0, h1, h2, h3⟩ := C.made c f hf
 have XK := I.keepK X
 obtain ⟨hh, g, d, t, os⟩ := s
 refine make_core (makes_of XK h1) (looks_findIn XK h2) (fun self => bind_fn XK self (beq_iff_eq.mp (C.fns f h0).1)) (.inl rfl) ?_
 have k1 : ∀ b o, hh.get? b = some o -> ((hh.push emptyDict).push (instObj (G.cl c) hh.objs.size)).get? b = some o := fun b o e => Heap.get?_push_of_some _ (Heap.get?_push_of_some _ e)
 have hx : ((hh.push emptyDict).push (instObj (G.cl c) hh.objs.size)).get? (hh.objs.size + 1) = some (instObj (G.cl c) hh.objs.size) := by heap_get
 have hd : ((hh.push emptyDict).push (instObj (G.cl c) hh.objs.size)).get? hh.objs.size = some emptyDict := by heap_get
 obtain ⟨I', S⟩ := I.alloc (p := (hh.objs.size + 1, some hh.objs.size)) (o := .inst c []) k1 (List.forall_mem_cons.mpr ⟨I.none_size' (Nat.le_succ _), List.forall_mem_cons.mpr ⟨I.none_size' (Nat.le_refl _), nofun⟩⟩) (by simp)
  (fun S => .inst hx ⟨Nat.zero_le _, by rw [hf]; rfl⟩ (n := 0) (es := []) hd .nil List.nodup_nil)
 have tu := typeCall_under (A := A) (a := G.cl c) (xs := xs)
 have hl : (π ++ [(hh.objs.size + 1, some hh.objs.size)])[σ.length]? = some (hh.objs.size + 1, some hh.objs.size) := I.len ▸ List.getElem?_concat_length
 refine SF f (.loc σ.length :: vs) (.ref (hh.objs.size + 1) :: xs) _ _ _ _ _ _ h0 ⟨D.h, ?_, ?_⟩ q I' (.cons (.loc hl) (r.step I S)) ?_
 ·have := D.u; omega
 ·have := D.d; omega
 ·intro v σ' s' π' x hq I2 S2 z rx
  obtain ⟨rfl, hq⟩ := hq
  cases rx
  exact ⟨rfl, k _ _ s' π' _ hq I2 (S.trans S2) ⟨z.1, z.2⟩ (.loc (S2.pre _ _ hl))⟩
theorem callOK (C : ClOK K G) (X : K.In g₀) (T : TbOK prog w G g₀) (SF : SoundF prog w G g₀ n F) (D : Deep (n + 1) A) {y : Value} {vs ws : List V} {xs : List Value} (q : CallW F Kk ws ρ σ vs) (I : Inv w.params G g₀ s.heap σ π) (ry : V1 G s.heap π vs y) (r : VRs G s.heap π ws xs) (k : Kont w.params G g₀ s π (fun v σ' => Kk ρ σ' (v :: vs.tail)) Qc) :
  wpAny (model prog w) A (call y xs) Qc E s := by
 induction q with
 | fn q =>
  obtain ⟨hf, rfl⟩ := VR.inv ry
  exact wpAny_call (SF _ ws xs _ _ _ _ _ _ hf ⟨D.h, Nat.lt_of_le_of_lt (Nat.add_le_add_right (Nat.add_le_add_left (Nat.mul_le_mul_left 40 (Nat.le_succ n)) _) _) D.u, Nat.lt_of_le_of_lt (Nat.add_le_add_left (Nat.mul_le_mul_left 5 (Nat.le_succ n)) _) D.d⟩ q I r k)
 | cls hf q => rw [show y = _ from VR.inv ry]; exact clsOK C X SF D hf q I r k
 | bi q => rw [show y = _ from VR.inv ry]; exact biOK D.roomy T q I r k
theorem meth_at {c : Cl} {m : Me} {f : Fn} (h : c.meth m = some f) : ∃ l ∈ clMeth, m < l.length /\ l[m]? = some (some f) := by
 have e : c.meth m = (clMeth.getD c []).getD m none := rfl
 rw [e, List.getD_eq_getElem?_getD, List.getD_eq_getElem?_getD] at h
 cases e2 : clMeth[c]? with
 | none => rw [e2] at h; cases h
 | some l =>
  rw [e2] at h
  cases e3 : l[m]? with
  | none => rw [Option.getD_some, e3] at h; cases h
  | some o => rw [Option.getD_some, e3] at h; exact ⟨l, List.mem_of_getElem? e2, (List.getElem?_eq_some_iff.mp e3).1, by rw [e3]; exact congrArg some h⟩
theorem meth_tab : ∀ l ∈ clMeth, ∀ m < l.length, (m < 4 -> l[m]? = some none) /\ ∀ l' ∈ clMeth, l[m]? = some none ∨ l'[m]? = none ∨ l'[m]? = some none ∨ l[m]? = l'[m]? := by decide +kernel
theorem meth_uniq {c c' : Cl} {m : Me} {f f' : Fn} (h : c.meth m = some f) (h' : c'.meth m = some f') : f = f' := by
 obtain ⟨l, hl, hm, e⟩ := meth_at h
 obtain ⟨l', hl', _, e'⟩ := meth_at h'
 rcases (meth_tab l hl m hm).2 l' hl' with z | z | z | z
 ·rw [e] at z; cases z
 ·rw [e'] at z; cases z
 ·rw [e'] at z; cases z
 ·rw [e, e'] at z; cases z; rfl
theorem meth_bi {c : Cl} {m : Me} {f : Fn} {id : String} (h : c.meth m = some f) (h' : m.bi = some id) : False := by
 obtain ⟨l, hl, hm, e⟩ := meth_at h
 have := (meth_tab l hl m hm).1 (List.getElem?_eq_some_iff.mp h').1
 rw [e] at this; cases this
theorem bmethOK (T : TbOK prog w G g₀) (hA : Roomy A) {o : V} {m : Me} {id : String} (hm : m.bi = some id)
  {x : Value} {vs : List V} {xs : List Value} (q : MethW F Kk ρ σ us o m vs) (I : Inv w.params G g₀ s.heap σ π) (ro : VR G s.heap π o x) (r : VRs G s.heap π vs xs) (k : Kont w.params G g₀ s π (fun v σ' => Kk ρ σ' (v :: us)) Qc) :
  wpAny (model prog w) A (call (.builtin id) (x :: xs)) Qc E s := by
 induction q with
 | append hs hz q =>
  cases hm
  obtain ⟨y, rfl, rv⟩ := r.one
  have hz := Nat.le_of_ble_eq_true hz
  induction I.list ro hs with
  | mk p hl e ry =>
  exact list_appendOK e (ry.length ▸ hz) fun h' m' ho he =>
   k.setAt (tk := s.toks) I q p (.head _) hs ho e he rfl (fun S => .list (by rw [List.length_append]; exact hz) he ((ry.step I S).snoc (rv.step I S))) .none
 | pop hs hv q =>
  cases hm
  rw [r.unnil]
  induction I.list ro hs with
  | mk p hl e ry =>
  rw [List.getLast?_eq_getElem?] at hv
  obtain ⟨z, hz, rz⟩ := ry.get hv
  exact list_popOK e (ry.length ▸ hl) (x := z) (by rw [List.getLast?_eq_getElem?, <- ry.length]; exact hz) fun h' m' ho he =>
   k.setAt (tk := s.toks) I q p (.head _) hs ho e he rfl (fun S => .list (by rw [List.length_dropLast]; exact Nat.le_trans (Nat.sub_le _ _) hl) he ((ry.step I S).dropLast)) rz
 | get hs hk e2 q =>
  cases hm
  subst e2
  obtain ⟨y, z, rfl, rv, rz⟩ := r.two
  induction I.dict ro hs with
  | mk p hl e ry ko => exact dict_getOK hA (not_sys T I (mem_addrs1 p)) e ry ko hk rv rz fun u tk ru => k.here I q ru _
 | @setdefault n kv kv' kk dd v hs hk hz e2 q =>
  cases hm
  obtain ⟨y, z, rfl, rv, rz⟩ := r.two
  have hz := Nat.le_of_ble_eq_true hz
  unfold dsd at e2
  induction I.dict ro hs with
  | mk p hl e ry ko =>
  refine dict_setdefaultOK hA (not_sys T I (mem_addrs1 p)) e ry ko hk rv rz (fun v' u tk hd ru => ?_) fun hd => ?_
  ·rw [hd] at e2
   cases e2
   obtain ⟨hn, hs⟩ := List.getElem?_eq_some_iff.mp hs
   rw [<- hs, List.set_getElem_self] at q
   exact k.here I q ru _
  ·rw [hd] at e2
   cases e2
   exact ⟨hz, fun h' es' n'' tk ho he re ko' => k.setAt I q p (.head _) hs ho e he rfl (fun S => .dict (by rw [List.length_append]; exact hz) he (re.step I S) ko') rz⟩
 | @tget t k0 d0 r0 e2 q =>
  cases hm
  subst e2
  obtain ⟨ht, rfl⟩ := ro.tbl_inv
  obtain ⟨y, z, rfl, rv, rz⟩ := r.two
  obtain ⟨es, n', e, hsys, re, ko⟩ := T.tab _ ht
  refine dict_getOK hA hsys (I.base _ _ e) (re _ _) ko (key_tab _) rv rz fun u tk ru => ?_
  rw [tget_dget] at ru
  refine k.here I q ?_ _
  cases hg : tget t.rows k0 with
  | none => rw [hg] at ru; exact ru
  | some j => rw [hg] at ru; exact ru
 | inst hs hf q => exact (meth_bi hf hm).elim
end
structure Side (G : Gl) (π : Pi) (g₀ h h' : Heap) (L : Addr) : Prop where
 other : ∀ c o, c ≠ L -> h.get? c = some o -> h'.get? c = some o
 old : ∀ o, h.get? L = some o -> (∀ vs, o ≠ tupO vs) /\ ∀ lo hi t u v, o ≠ rngO lo hi t u v
 apart : L ∉ addrs π
 base : g₀.get? L = none
 lst : L ≠ G.lst
theorem nt {h : Heap} {L : Addr} (x : ∃ o, h.get? L = some o /\ (∀ vs, o ≠ tupO vs) /\ ∀ lo hi t u v, o ≠ rngO lo hi t u v) : ∀ o, h.get? L = some o -> (∀ vs, o ≠ tupO vs) /\ ∀ lo hi t u v, o ≠ rngO lo hi t u v := by
 obtain ⟨o, h1, h2⟩ := x
 intro o' e; rw [h1] at e; cases e; exact h2
theorem not_of_cls {o : Obj} (h1 : o.cls ≠ .type "tuple") (h2 : o.cls ≠ .type "range") : (∀ vs, o ≠ tupO vs) /\ ∀ lo hi t u v, o ≠ rngO lo hi t u v :=
 ⟨fun vs e => h1 (by rw [e]), fun lo hi t u v e => h2 (by rw [e])⟩
theorem not_of_dict {o : Obj} {es : Array DictEntry} {n : Nat} (h : o.data = .dict es n) : (∀ vs, o ≠ tupO vs) /\ ∀ lo hi t u v, o ≠ rngO lo hi t u v :=
 ⟨fun vs e => (by rw [e] at h; cases h), fun lo hi t u v e => (by rw [e] at h; cases h)⟩
theorem not_of_cell {o : Obj} {v : Option Value} (h : o.data = .cell v) : (∀ vs, o ≠ tupO vs) /\ ∀ lo hi t u v, o ≠ rngO lo hi t u v :=
 ⟨fun vs e => (by rw [e] at h; cases h), fun lo hi t u v e => (by rw [e] at h; cases h)⟩
section
variable {P : Params} {G : Gl} {g₀ h h' h₀ : Heap} {σ σ₀ : St} {π π₀ : Pi} {L : Addr}
theorem VR.side (D : Side G π g₀ h h' L) {v : V} {x : Value} (r : VR G h π v x) : VR G h' π v x := by
 induction r with
 | none => exact .none
 | bool b => exact .bool b
 | int i t => exact .int i t
 | str s t => exact .str s t
 | tup e hl h1 _ ih => exact .tup (D.other _ _ (fun z => by rw [z] at e; exact (D.old _ e).1 _ rfl) e) hl h1 ih
 | loc e => exact .loc e
 | fn f => exact .fn f
 | cls c => exact .cls c
 | tbl t => exact .tbl t
 | bi b => exact .bi b
 | rng e a b => exact .rng (D.other _ _ (fun z => by rw [z] at e; exact (D.old _ e).2 _ _ _ _ _ rfl) e) a b
 | rol e m hl h1 _ ih => exact .rol (D.other _ _ (fun z => D.lst z.symm) e) m hl h1 ih
theorem VRs.side (D : Side G π g₀ h h' L) {l : List V} {vs : List Value} (r : VRs G h π l vs) : VRs G h' π l vs := ⟨r.1, fun i v x e f => (r.2 i v x e f).side D⟩
theorem ER.side {hash : V -> Int} (D : Side G π g₀ h h' L) {kv : List (V × V)} {es : List DictEntry} (x : ER P G h π hash kv es) : ER P G h' π hash kv es := by
 induction x with
 | nil => exact .nil
 | cons a b _ ih => exact .cons (a.side D) (b.side D) ih
theorem FR.side (D : Side G π g₀ h h' L) {fs : List (At × V)} {es : List DictEntry} (x : FR P G h π fs es) : FR P G h' π fs es := by
 induction x with
 | nil => exact .nil
 | cons b a _ ih => exact .cons b (a.side D) ih
theorem OR.side (D : Side G π g₀ h h' L) {o : O} {p : Addr × Option Addr} (x : OR P G h π o p) (na : p.1 ∈ addrs π) (nd : ∀ b, p.2 = some b -> b ∈ addrs π) : OR P G h' π o p := by
 have k1 : ∀ q, h.get? p.1 = some q -> h'.get? p.1 = some q := fun q => D.other _ _ fun z => D.apart (z ▸ na)
 cases o with
 | list l => obtain ⟨e0, z, e, r⟩ := (show ORl _ _ _ _ _ from x); exact ORl.mk e0 z (k1 _ e) (r.side D)
 | dict kv => obtain ⟨e0, z, e, r, q⟩ := (show ORd _ _ _ _ _ _ from x); exact ORd.mk e0 z (k1 _ e) (r.side D) q
 | inst c fs => obtain ⟨e0, e, z, e2, r, q⟩ := (show ORi _ _ _ _ _ _ _ from x); exact ORi.mk e0 (k1 _ e) z (D.other _ _ (fun z => D.apart (z ▸ nd _ e0)) e2) (r.side D) q
theorem Inv.side (I : Inv P G g₀ h σ π) (D : Side G π g₀ h h' L) : Inv P G g₀ h' σ π :=
 ⟨I.len, fun n o p e f => (I.rep n o p e f).side D (mem_addrs1 (d := p.2) f) (fun b hb => mem_addrs2 (a := p.1) (by rw [<- hb]; exact f)), I.nd, I.fresh, fun a o e => D.other _ _ (fun z => by rw [z, D.base] at e; cases e) (I.base a o e), I.hi⟩
theorem Step.side (S : Step h₀ π₀ h π) (D : Side G π g₀ h h' L) (n : h₀.get? L = none) : Step h₀ π₀ h' π :=
 ⟨S.pre, fun a o e m => D.other _ _ (fun z => by rw [z, n] at e; cases e) (S.keep a o e m), S.new, fun a o e => by
  obtain ⟨o', h1, h2⟩ := S.cls a o e
  exact ⟨o', D.other _ _ (fun z => by rw [z, n] at e; cases e) h1, h2⟩⟩
theorem Inv.adopt (I : Inv P G g₀ h σ π) {d : Addr} {o : O} {ob : Obj} (na : d ∉ addrs π) (nb : g₀.get? d = none /\ d ≠ 1) (nl : d ≠ G.lst) (e : h.get? d = some ob) (hc : ob.cls ≠ .type "tuple" /\ ob.cls ≠ .type "range")
  (n0 : h₀.get? d = none) (S : Step h₀ π₀ h π) (r : (∀ {v x}, VR G h π v x -> VR G h (π ++ [(d, none)]) v x) -> OR P G h (π ++ [(d, none)]) o (d, none)) :
  Inv P G g₀ h (σ ++ [o]) (π ++ [(d, none)]) /\ Step h₀ π₀ h (π ++ [(d, none)]) := by
 have hm : ∀ a, a ∈ addrs (π ++ [(d, none)]) -> a ∈ addrs π ∨ a = d := fun a m => by
  rw [addrs_append] at m
  rcases List.mem_append.mp m with m | m
  ·exact .inl m
  ·exact .inr (by simpa [addrs] using m)
 have pre : ∀ (n : Nat) p, π[n]? = some p -> (π ++ [(d, none)])[n]? = some p := fun n p z => by rw [List.getElem?_append_left (List.getElem?_eq_some_iff.mp z).1]; exact z
 have up : ∀ {v x}, VR G h π v x -> VR G h (π ++ [(d, none)]) v x := by
  intro v x q
  induction q with
  | none => exact .none
  | bool b => exact .bool b
  | int i t => exact .int i t
  | str s t => exact .str s t
  | tup e hl h1 _ ih => exact .tup e hl h1 ih
  | loc e => exact .loc (pre _ _ e)
  | fn f => exact .fn f
  | cls c => exact .cls c
  | tbl t => exact .tbl t
  | bi b => exact .bi b
  | rng e a b => exact .rng e a b
  | rol e m hl h1 _ ih => exact .rol e (fun z => (hm _ z).elim m fun z => nl z.symm) hl h1 ih
 have ups : ∀ {l vs}, VRs G h π l vs -> VRs G h (π ++ [(d, none)]) l vs := fun q => ⟨q.1, fun i v x e f => up (q.2 i v x e f)⟩
 have upo : ∀ {o p}, OR P G h π o p -> OR P G h (π ++ [(d, none)]) o p := by
  intro o p x
  cases o with
  | list l => obtain ⟨e0, z, e, r⟩ := (show ORl _ _ _ _ _ from x); exact ORl.mk e0 z e (ups r)
  | dict kv =>
   obtain ⟨e0, z, e, r, q⟩ := (show ORd _ _ _ _ _ _ from x)
   refine ORd.mk e0 z e ?_ q
   clear e z q e0 x
   induction r with
   | nil => exact .nil
   | cons a b _ ih => exact .cons (up a) (up b) ih
  | inst c fs =>
   obtain ⟨e0, e, z, e2, r, q⟩ := (show ORi _ _ _ _ _ _ _ from x)
   refine ORi.mk e0 e z e2 ?_ q
   clear e e2 z q e0 x
   induction r with
   | nil => exact .nil
   | cons b a _ ih => exact .cons b (up a) ih
 refine ⟨⟨by rw [List.length_append, List.length_append, I.len]; rfl, fun m q z e' f => ?_, ?_, fun a m => ?_, I.base, I.hi⟩, ⟨fun n p z => pre n p (S.pre n p z), S.keep, fun a m => ?_, S.cls⟩⟩
 ·rcases snoc_at e' with e2 | ⟨rfl, e2⟩
  ·rw [List.getElem?_append_left (I.len.symm ▸ len_of e2)] at f
   exact upo (I.rep m q z e2 f)
  ·rw [<- I.len] at f
   rw [e2, Option.some.inj (f.symm.trans List.getElem?_concat_length)]
   exact r up
 ·rw [addrs_append]
  refine List.nodup_append.mpr ⟨I.nd, by simp [addrs], fun a ha b hb => ?_⟩
  rintro rfl
  exact na ((by simpa [addrs] using hb : a = d) ▸ ha)
 ·rcases hm a m with m | m
  ·exact I.fresh a m
  ·rw [m]; exact nb
 ·rcases hm a m with m | m
  ·exact S.new a m
  ·rw [m]; exact .inr n0
end
section
set_option genInjectivity false
inductive Look (G : Gl) (h : Heap) (π : Pi) (env : Env) (x : Str) (v : V) : Prop
 | loc {m : Str -> Option Value} {y : Value} : env.kindOf x = some .local -> env.locals ∉ addrs π -> h.Ns env.locals m -> m x = some y -> VR G h π v y -> Look G h π env x v
 | cell {c : Addr} {y : Value} : env.kindOf x = some .cell ∨ env.kindOf x = some .free -> env.cells.lookup x = some c -> c ∉ addrs π -> h.IsCell c (some y) -> VR G h π v y -> Look G h π env x v
structure GlobOK (g₀ : Heap) (G : Gl) : Prop where
 glob : ∀ x v, (x, v) ∈ globs -> ∃ y, (∀ h π, VR G h π v y) /\ ∀ {M : Model} {A : Around} {E : Value -> Shared -> Prop} {s : Shared} {Q : Value -> Shared -> Prop} {env : Env},
  (∀ a o, g₀.get? a = some o -> s.heap.get? a = some o) -> env.globals = mainGlobals -> env.builtins = builtinsNs -> Q y s -> wpAny M A (loadGlobal env (Str.ofString x)) Q E s
noncomputable def dbg (x : String) : Bool := Str.ofString x == ("__debug__" : Str) || Str.ofString x == ("__classdict__" : Str)
structure Cxt where
 prog : Program
 w : World
 K : Frag
 G : Gl
 g₀ : Heap
 n : Nat
 F : FnSem
 env : Env
 loc : List String
 cmp : List String
 κ : List V
structure FactsE (X : Cxt) : Prop where
 cls : ClOK X.K X.G
 inK : X.K.In X.g₀
 tb : TbOK X.prog X.w X.G X.g₀
 gl : GlobOK X.g₀ X.G
 sf : SoundF X.prog X.w X.G X.g₀ X.n X.F
noncomputable def mine (env : Env) (x : Str) : Prop := env.kindOf x = some .local ∨ env.kindOf x = some .cell ∨ env.kindOf x = some .free
structure Sees (X : Cxt) (h : Heap) (π : Pi) (ρ : Fr) : Prop where
 kind : X.env.scope.kind = .function
 glob : X.env.globals = mainGlobals
 blt : X.env.builtins = builtinsNs
 cmp : ∀ (i : Nat) x v, X.cmp[i]? = some x -> X.κ[i]? = some v -> Look X.G h π X.env (Str.ofString x) v
 loc : ∀ (i : Nat) x v, X.loc[i]? = some x -> ρ[i]? = some (some v) -> mine X.env (Str.ofString x) -> Look X.G h π X.env (Str.ofString x) v
 clos : ∀ (i : Nat) x, X.loc[i]? = some x -> X.env.kindOf (Str.ofString x) = some .cell -> ∃ c, X.env.cells.lookup (Str.ofString x) = some c
section
variable {P : Params} {G : Gl} {g₀ h h' : Heap} {σ : St} {π π' : Pi} {env : Env} {x : Str} {v : V}
theorem Step.apart (S : Step h π h' π') {c : Addr} {o : Obj} (e : h.get? c = some o) (n : c ∉ addrs π) : c ∉ addrs π' := fun m => (S.new c m).elim n fun z => nomatch e.symm.trans z
theorem Look.step (L : Look G h π env x v) (I : Inv P G g₀ h σ π) (S : Step h π h' π') : Look G h' π' env x v := by
 cases L with
 | loc k a n e r =>
  obtain ⟨o, es, ep, ho, q⟩ := n
  exact .loc k (S.apart ho a) ⟨o, es, ep, S.keep _ _ ho a, q⟩ e (r.step I S)
 | cell k l a n r =>
  obtain ⟨o, ho, q⟩ := n
  exact .cell k l (S.apart ho a) ⟨o, S.keep _ _ ho a, q⟩ (r.step I S)
theorem Sees.step {X : Cxt} {ρ : Fr} (Y : Sees X h π ρ) (I : Inv P X.G g₀ h σ π) (S : Step h π h' π') : Sees X h' π' ρ :=
 ⟨Y.kind, Y.glob, Y.blt, fun i x v a b => (Y.cmp i x v a b).step I S, fun i x v a b c => (Y.loc i x v a b c).step I S, Y.clos⟩
theorem Look.name {prog : Program} {w : World} {A : Around} {E : Value -> Shared -> Prop} {s : Shared} {Qc : Value -> Shared -> Prop} {y : String} {pos : Pos} (hk : env.scope.kind = .function) (hd : dbg y = false) (L : Look G s.heap π env (Str.ofString y) v) (q : ∀ z, VR G s.heap π v z -> Qc z s) :
  wpAny (model prog w) A (eval (.Name (Str.ofString y) pos) env) Qc E s := by
 obtain ⟨h1, h2⟩ := Bool.or_eq_false_iff.mp hd
 refine wpAny_Name ?_ h1
 cases L with
 | loc k a n e r => exact wpAny_loadName_local hk k n e (q _ r)
 | cell k l a n r =>
  cases k with
  | inl k => exact wpAny_loadName_cell hk k l n (q _ r)
  | inr k => exact wpAny_loadName_free hk k l n (q _ r) h2
end
structure Stand (X : Cxt) (A : Around) (s : Shared) (σ : St) (π : Pi) (ρ : Fr) : Prop where
 d : Deep (X.n + 1) A
 i : Inv X.w.params X.G X.g₀ s.heap σ π
 x : Sees X s.heap π ρ
abbrev Kc (X : Cxt) (s : Shared) (π : Pi) (Q : Post) (Qc : Value -> Shared -> Prop) : Prop := Kont X.w.params X.G X.g₀ s π Q Qc
abbrev Kb (X : Cxt) (s : Shared) (π : Pi) (Q : Bool -> St -> Prop) (Qc : Bool -> Shared -> Prop) : Prop :=
 ∀ v σ' s' π', Q v σ' -> Inv X.w.params X.G X.g₀ s'.heap σ' π' -> Step s.heap π s'.heap π' -> Same s s' -> Qc v s'
abbrev Tells (K : V -> St -> Prop) (Q : Bool -> St -> Prop) : Prop := ∀ v σ, K v σ -> ∃ t, TrW σ v t /\ Q t σ
def EvP (X : Cxt) (ee : PySem.Expr) (wp : Kt -> Kt) : Prop :=
 ∀ A E s σ π ρ us K Qc, Stand X A s σ π ρ -> wp K ρ σ us -> Kc X s π (fun v σ' => K ρ σ' (v :: us)) Qc -> wpAny (model X.prog X.w) A (eval ee X.env) Qc E s
def TrP (X : Cxt) (ee : PySem.Expr) (wp : Kt -> Kt) : Prop :=
 ∀ A E s σ π ρ us K Q Qc, Stand X A s σ π ρ -> wp K ρ σ us -> Tells (fun v σ' => K ρ σ' (v :: us)) Q -> Kb X s π Q Qc -> wpAny (model X.prog X.w) A (isTrue ee X.env (eval ee X.env)) Qc E s
def LsP (X : Cxt) (es : List PySem.Expr) (wp : (List V -> Kt) -> Kt) : Prop :=
 ∀ A E s σ π ρ us pos K Qc, Stand X A s σ π ρ -> wp K ρ σ us -> KontL X.w.params X.G X.g₀ s π (fun vs σ' => K vs ρ σ' us) (fun xs s' => xs.length = es.length -> Qc xs s') -> wpAny (model X.prog X.w) A (spliced (backTo pos (starEach es X.env))) Qc E s
section
variable {X : Cxt} {A : Around} {s s' : Shared} {σ σ' : St} {π π' : Pi} {ρ : Fr} {E : Value -> Shared -> Prop} {Q : Bool -> St -> Prop} {Qb : Bool -> Shared -> Prop} {ee : PySem.Expr} {wp : Kt -> Kt}
theorem Stand.next (H : Stand X A s σ π ρ) (I : Inv X.w.params X.G X.g₀ s'.heap σ' π') (S : Step s.heap π s'.heap π') : Stand X A s' σ' π' ρ := ⟨H.d, I, H.x.step H.i S⟩
theorem Kb.next (k : Kb X s π Q Qb) (S : Step s.heap π s'.heap π') (z : Same s s') : Kb X s' π' Q Qb := fun v σ' s'' π'' q I S' z' => k v σ' s'' π'' q I (S.trans S') (z.trans z')
theorem TrW.det {v : V} {t u : Bool} (a : TrW σ v t) (b : TrW σ v u) : t = u := by
 cases a with
 | none => cases b; rfl
 | bool _ => cases b; rfl
 | int e => cases b with | int e' => exact e.symm.trans e'
 | list h e => cases b with | list h' e' => rw [h] at h'; cases h'; exact e.symm.trans e'
theorem IfW.out {a b : Kt} {v : V} {us : List V} (q : IfW a b ρ σ (v :: us)) : ∃ t, TrW σ v t /\ (bif t then a else b) ρ σ us := by
 cases q with
 | tt q => exact ⟨true, .bool _, q⟩
 | ff q => exact ⟨false, .bool _, q⟩
 | t h q => exact ⟨true, h, q⟩
 | f h q => exact ⟨false, h, q⟩
theorem truthK {v : V} {x : Value} (q : ∃ t, TrW σ v t /\ Q t σ) (I : Inv X.w.params X.G X.g₀ s.heap σ π) (r : VR X.G s.heap π v x) (k : Kb X s π Q Qb) : wpAny (model X.prog X.w) A (truthy x) Qb E s := by
 obtain ⟨t, ht, q⟩ := q
 exact truthOK ht I r fun tk => k t σ { s with toks := tk } π q I (Step.refl _ _) ⟨rfl, rfl⟩
theorem tr_plain (h : EvP X ee wp) (he : ∀ whole, isTrue ee X.env whole = (do let v <- whole; standAt ee.pos; holding [v] (truthy v))) : EvP X ee wp /\ TrP X ee wp := by
 refine ⟨h, ?_⟩
 intro A E s σ π ρ us K Q Qc H q T k
 exact isTrue_plain (h A E s σ π ρ us K _ H q fun v σ1 s1 π1 x q1 I1 S1 z1 r => truthK (T v σ1 q1) I1 r (Kb.next k S1 z1)) (he _)
theorem ev_bin {op : Operator} {a b : PySem.Expr} {pos : Pos} {wa wb : Kt -> Kt} (ha : EvP X a wa) (hb : EvP X b wb) : EvP X (.BinOp a op b pos) fun K => wa (wb (BinW op K)) := by
 intro A E s σ π ρ us K Qc H q k
 refine wpAny_BinOp (ha A E s σ π ρ us _ _ H q fun va σ1 s1 π1 xa q1 I1 S1 z1 ra => ?_)
 refine hb A E s1 σ1 π1 ρ _ _ _ (H.next I1 S1) q1 fun vb σ2 s2 π2 xb q2 I2 S2 z2 rb => ?_
 exact binOK H.d.roomy q2 I2 ⟨rb, ra.step I1 S2⟩ (k.next (S1.trans S2) (z1.trans z2))
theorem ev_not {a : PySem.Expr} {pos : Pos} {wa : Kt -> Kt} (ha : EvP X a wa) (ta : TrP X a wa) : EvP X (.UnaryOp .Not a pos) (fun K => wa (IfW (kPush (.bool false) K) (kPush (.bool true) K))) /\ TrP X (.UnaryOp .Not a pos) (fun K => wa (IfW (kPush (.bool false) K) (kPush (.bool true) K))) := by
 refine ⟨?_, ?_⟩
 ·intro A E s σ π ρ us K Qc H q k
  refine wpAny_UnaryOp (ha A E s σ π ρ us _ _ H q fun va σ1 s1 π1 xa q1 I1 S1 z1 ra => ?_)
  unfold unaryOp
  obtain ⟨t, ht, q1⟩ := q1.out
  refine wpAny_holding (wpAny_bind (truthOK ht I1 ra fun tk => wpAny_pure ?_))
  refine (k.next S1 z1).here (v := .bool (!t)) I1 ?_ (.bool _) tk
  cases t <;> exact q1
 ·intro A E s σ π ρ us K Q Qc H q T k
  refine isTrue_not (ta A E s σ π ρ us _ (fun t σ' => Q (!t) σ') _ H q (fun v σ' q' => ?_) fun v σ1 s1 π1 q1 I1 S1 z1 => k _ _ _ _ q1 I1 S1 z1)
  obtain ⟨t, ht, q1⟩ := q'.out
  refine ⟨t, ht, ?_⟩
  have : K ρ σ' (.bool (!t) :: us) := by cases t <;> exact q1
  obtain ⟨u, hu, q2⟩ := T _ _ this
  cases hu
  exact q2
theorem ev_neg {a : PySem.Expr} {pos : Pos} {wa : Kt -> Kt} (ha : EvP X a wa) : EvP X (.UnaryOp .USub a pos) fun K => wa (NegW K) := by
 intro A E s σ π ρ us K Qc H q k
 refine wpAny_UnaryOp (ha A E s σ π ρ us _ _ H q fun va σ1 s1 π1 xa q1 I1 S1 z1 ra => ?_)
 cases q1 with
 | mk q1 =>
  obtain ⟨t, rfl⟩ := ra.int_inv
  exact PyProof.Rows.neg_int ((k.next S1 z1).here I1 q1 (.int _ _) _)
theorem ev_cmp (Y : FactsE X) {op : CmpOp} {a b : PySem.Expr} {pos : Pos} {wa wb : Kt -> Kt} (hm : behindInMarks op b = false) (ha : EvP X a wa) (hb : EvP X b wb) :
  EvP X (.Compare a [op] [b] pos) (fun K => wa (wb (CmpW op K))) /\ TrP X (.Compare a [op] [b] pos) (fun K => wa (wb (CmpW op K))) := by
 refine ⟨?_, ?_⟩
 ·intro A E s σ π ρ us K Qc H q k
  refine wpAny_Compare1 (ha A E s σ π ρ us _ _ H q fun va σ1 s1 π1 xa q1 I1 S1 z1 ra => ?_) hm
  refine hb A E s1 σ1 π1 ρ _ _ _ (H.next I1 S1) q1 fun vb σ2 s2 π2 xb q2 I2 S2 z2 rb => ?_
  exact cmpOK H.d.roomy Y.tb q2 I2 ⟨rb, ra.step I1 S2⟩ (k.next (S1.trans S2) (z1.trans z2))
 ·intro A E s σ π ρ us K Q Qc H q T k
  refine wpAny_isTrue_Compare1 (ha A E s σ π ρ us _ _ H q fun va σ1 s1 π1 xa q1 I1 S1 z1 ra => ?_) hm
  refine hb A E s1 σ1 π1 ρ _ _ _ (H.next I1 S1) q1 fun vb σ2 s2 π2 xb q2 I2 S2 z2 rb => ?_
  refine cmpOK H.d.roomy Y.tb q2 I2 ⟨rb, ra.step I1 S2⟩ fun v σ3 s3 π3 x q3 I3 S3 z3 r3 => ?_
  exact truthK (T v σ3 q3) I3 r3 (Kb.next k (S1.trans (S2.trans S3)) (z1.trans (z2.trans z3)))
theorem ev_ife {c a b : PySem.Expr} {pos : Pos} {wc wa wb : Kt -> Kt} (tc : TrP X c wc) (ha : EvP X a wa) (ta : TrP X a wa) (hb : EvP X b wb) (tb : TrP X b wb) :
  EvP X (.IfExp c a b pos) (fun K => wc (IfW (wa K) (wb K))) /\ TrP X (.IfExp c a b pos) (fun K => wc (IfW (wa K) (wb K))) := by
 refine ⟨?_, ?_⟩
 ·intro A E s σ π ρ us K Qc H q k
  refine wpAny_IfExp (tc A E s σ π ρ us _ (fun t σ1 => (bif t then wa K else wb K) ρ σ1 us) _ H q (fun v σ' q' => q'.out) fun t σ1 s1 π1 q1 I1 S1 z1 => ?_)
  cases t with
  | true => exact ha A E s1 σ1 π1 ρ us K _ (H.next I1 S1) q1 (k.next S1 z1)
  | false => exact hb A E s1 σ1 π1 ρ us K _ (H.next I1 S1) q1 (k.next S1 z1)
 ·intro A E s σ π ρ us K Q Qc H q T k
  show wpAny (model X.prog X.w) A (do
   if <- isTrue c X.env (eval c X.env) then isTrue a X.env (eval a X.env) else isTrue b X.env (eval b X.env)) Qc E s
  refine wpAny_bind (tc A E s σ π ρ us _ (fun t σ1 => (bif t then wa K else wb K) ρ σ1 us) _ H q (fun v σ' q' => q'.out) fun t σ1 s1 π1 q1 I1 S1 z1 => ?_)
  cases t with
  | true => exact ta A E s1 σ1 π1 ρ us K Q _ (H.next I1 S1) q1 T (Kb.next k S1 z1)
  | false => exact tb A E s1 σ1 π1 ρ us K Q _ (H.next I1 S1) q1 T (Kb.next k S1 z1)
end
end
noncomputable def bop (t : Bool) : BoolOp := bif t then .And else .Or
def BvP (X : Cxt) (t : Bool) (es : List PySem.Expr) (wp : Kt -> Kt) : Prop :=
 ∀ A E s σ π ρ us pos K Qc, Stand X A s σ π ρ -> wp K ρ σ us -> Kc X s π (fun v σ' => K ρ σ' (v :: us)) Qc -> wpAny (model X.prog X.w) A (boolOp pos (bop t) (evalEach es X.env)) Qc E s
def BtP (X : Cxt) (t : Bool) (es : List PySem.Expr) (wp : Kt -> Kt) : Prop :=
 ∀ A E s σ π ρ us K Q Qc, Stand X A s σ π ρ -> wp K ρ σ us -> Tells (fun v σ' => K ρ σ' (v :: us)) Q -> Kb X s π Q Qc -> wpAny (model X.prog X.w) A (allTrue (bop t) es X.env) Qc E s
section
variable {X : Cxt} {A : Around} {s s' : Shared} {σ σ' : St} {π π' : Pi} {ρ : Fr} {E : Value -> Shared -> Prop} {pos : Pos}
theorem ao_out {t : Bool} {a K : Kt} {v : V} {us : List V} (q : (bif t then kAnd a K else kOr a K) ρ σ (v :: us)) : ∃ c, TrW σ v c /\ (c = t -> a ρ σ us) /\ (c ≠ t -> K ρ σ (v :: us)) := by
 cases t with
 | true =>
  obtain ⟨c, h, q⟩ := (show IfW a (fun ρ σ r => K ρ σ (v :: r)) ρ σ (v :: us) from q).out
  refine ⟨c, h, fun e => ?_, fun e => ?_⟩
  ·subst e; exact q
  ·cases c with
   | true => exact absurd rfl e
   | false => exact q
 | false =>
  obtain ⟨c, h, q⟩ := (show IfW (fun ρ σ r => K ρ σ (v :: r)) a ρ σ (v :: us) from q).out
  refine ⟨c, h, fun e => ?_, fun e => ?_⟩
  ·subst e; exact q
  ·cases c with
   | true => exact q
   | false => exact absurd rfl e
theorem bv_cons {t : Bool} {e f : PySem.Expr} {es : List PySem.Expr} {wa wb : Kt -> Kt} (ha : EvP X e wa) (hb : BvP X t (f :: es) wb) :
  BvP X t (e :: f :: es) fun K => wa (bif t then kAnd (wb K) K else kOr (wb K) K) := by
 intro A E s σ π ρ us pos K Qc H q k
 show wpAny (model X.prog X.w) A (do
  let v <- eval e X.env
  standAt pos
  let c <- holding [v] (truthy v)
  match bop t, c with
  | .And, false | .Or, true => pure v
  | _, _ => boolOp pos (bop t) (evalEach (f :: es) X.env)) Qc E s
 refine wpAny_bind (ha A E s σ π ρ us _ _ H q fun va σ1 s1 π1 xa q1 I1 S1 z1 ra => wpAny_bind (wpAny_standAt (wpAny_bind (wpAny_holding ?_))))
 obtain ⟨c, hc, go, no⟩ := ao_out q1
 refine truthOK hc I1 ra fun tk => ?_
 have rest : (c = t -> wpAny (model X.prog X.w) A (boolOp pos (bop t) (evalEach (f :: es) X.env)) Qc E { s1 with toks := tk }) := fun e =>
  hb A E { s1 with toks := tk } σ1 π1 ρ us pos K Qc (H.next (s' := { s1 with toks := tk }) I1 S1) (go e) (k.next (s' := { s1 with toks := tk }) S1 z1)
 have stop : (c ≠ t -> Qc xa { s1 with toks := tk }) := fun e => (k.next S1 z1).here I1 (no e) ra tk
 clear go no hc q1
 cases t <;> cases c
 ·exact rest rfl
 ·exact wpAny_pure (stop nofun)
 ·exact wpAny_pure (stop nofun)
 ·exact rest rfl
theorem bt_one {t : Bool} {e : PySem.Expr} {wa : Kt -> Kt} (ha : TrP X e wa) : BtP X t [e] wa := by
 intro A E s σ π ρ us K Q Qc H q T k
 show wpAny (model X.prog X.w) A (do
  match bop t, <- isTrue e X.env (eval e X.env) with
  | .And, false => pure false
  | .Or, true => pure true
  | _, _ => allTrue (bop t) [] X.env) Qc E s
 refine wpAny_bind (ha A E s σ π ρ us K Q _ H q T fun c σ1 s1 π1 q1 I1 S1 z1 => ?_)
 have := k c σ1 s1 π1 q1 I1 S1 z1
 cases t <;> cases c <;> exact wpAny_pure this
theorem bt_cons {t : Bool} {e : PySem.Expr} {es : List PySem.Expr} {wa wb : Kt -> Kt} (ha : TrP X e wa) (hb : BtP X t es wb) :
  BtP X t (e :: es) fun K => wa (bif t then kAnd (wb K) K else kOr (wb K) K) := by
 intro A E s σ π ρ us K Q Qc H q T k
 show wpAny (model X.prog X.w) A (do
  match bop t, <- isTrue e X.env (eval e X.env) with
  | .And, false => pure false
  | .Or, true => pure true
  | _, _ => allTrue (bop t) es X.env) Qc E s
 refine wpAny_bind (ha A E s σ π ρ us _ (fun c σ1 => (c = t -> wb K ρ σ1 us) /\ (c ≠ t -> Q c σ1)) _ H q (fun v σ1 q1 => ?_) fun c σ1 s1 π1 q1 I1 S1 z1 => ?_)
 ·obtain ⟨c, hc, go, no⟩ := ao_out q1
  refine ⟨c, hc, go, fun e => ?_⟩
  obtain ⟨u, hu, q2⟩ := T _ _ (no e)
  exact hc.det hu ▸ q2
 ·have rest : (c = t -> wpAny (model X.prog X.w) A (allTrue (bop t) es X.env) Qc E s1) := fun e => hb A E s1 σ1 π1 ρ us K Q Qc (H.next I1 S1) (q1.1 e) T (Kb.next k S1 z1)
  have stop : (c ≠ t -> Qc c s1) := fun e => k c σ1 s1 π1 (q1.2 e) I1 S1 z1
  clear q1
  cases t <;> cases c
  ·exact rest rfl
  ·exact wpAny_pure (stop nofun)
  ·exact wpAny_pure (stop nofun)
  ·exact rest rfl
theorem ls_nil : LsP X [] fun K => K [] := by
 intro A E s σ π ρ us pos K Qc H q k
 exact spliced_nil (k [] σ s π [] q H.i (Step.refl _ _) ⟨rfl, rfl⟩ .nil rfl)
theorem ls_cons {e : PySem.Expr} {es : List PySem.Expr} {wa : Kt -> Kt} {wb : (List V -> Kt) -> Kt} (hs : starEach (e :: es) X.env = (false, eval e X.env) :: starEach es X.env) (ha : EvP X e wa) (hb : LsP X es wb) : LsP X (e :: es) fun K => wa (wb (kL K)) := by
 intro A E s σ π ρ us pos K Qc H q k
 rw [hs]
 show wpAny (model X.prog X.w) A (spliced ((false, eval e X.env) :: backTo pos (starEach es X.env))) Qc E s
 refine spliced_cons (ha A E s σ π ρ us _ _ H q fun va σ1 s1 π1 xa q1 I1 S1 z1 ra => ?_)
 exact hb A E s1 σ1 π1 ρ _ pos _ _ (H.next I1 S1) q1 fun vs σ2 s2 π2 xs q2 I2 S2 z2 rs hl => k _ _ _ _ _ q2 I2 (S1.trans S2) (z1.trans z2) (.cons (ra.step I1 S2) rs) (congrArg Nat.succ hl)
theorem len25 {n : Nat} (h : Nat.ble n 25 = true) : n ≤ lim := Nat.le_trans (Nat.le_of_ble_eq_true h) (by decide)
theorem ev_tup {es : List PySem.Expr} {kk : Nat} {wl : (List V -> Kt) -> Kt} (hl : LsP X es wl) (hz : Nat.ble es.length 25 = true) : EvP X (.Tuple es kk pos) fun K => wl (kTup K) := by
 intro A E s σ π ρ us K Qc H q k
 refine wpAny_Tuple (hl A E s σ π ρ us pos _ _ H q fun vs σ1 s1 π1 xs q1 I1 S1 z1 rs e => ⟨?_, ?_⟩)
 ·show xs.toArray.size ≤ _
  rw [List.size_toArray, e]; exact Nat.le_trans (len25 hz) lim_le
 ·exact (k.next S1 z1).pushTup I1 q1 (by rw [rs.length, e]; exact len25 hz) rs s1.toks
theorem ev_list {es : List PySem.Expr} {wl : (List V -> Kt) -> Kt} (hl : LsP X es wl) (hz : Nat.ble es.length 25 = true) : EvP X (.List es pos) fun K => wl (kList K) := by
 intro A E s σ π ρ us K Qc H q k
 refine wpAny_List (hl A E s σ π ρ us pos _ _ H q fun vs σ1 s1 π1 xs q1 I1 S1 z1 rs e => ⟨?_, ?_⟩)
 ·show xs.toArray.size ≤ _
  rw [List.size_toArray, e]; exact Nat.le_trans (len25 hz) lim_le
 ·exact (k.next S1 z1).newList (t := s1.toks) (n := 0) I1 q1 (fun b o e => Heap.get?_push_of_some _ e) (I1.none_size' (Nat.le_refl _)) (Heap.get?_push_size _ rfl) (by rw [rs.length, e]; exact len25 hz) rs
theorem ev_attr {a : PySem.Expr} {m : At} {wa : Kt -> Kt} (Y : FactsE X) (hm : m < nAt) (hc : ∀ t w, attributeBase a t X.env w = w) (ha : EvP X a wa) : EvP X (.Attribute a (Str.ofString m.nm) pos) fun K => wa (AttrW m K) := by
 intro A E s σ π ρ us K Qc H q k
 refine Attribute_any_ (ha A E s σ π ρ us _ _ H q fun va σ1 s1 π1 xa q1 I1 S1 z1 ra => attrOK Y.cls Y.inK hm q1 I1 ra (k.next S1 z1)) ?_
 conv => rhs; rw [<- hc (Str.ofString m.nm) (eval a X.env)]
 rfl
def Items (s : Shared) (x : Value) : Prop := ∃ T id, s.TypeIs x T /\ typeLookup (.type T) "__getitem__" = pure (some (.builtin id))
section
variable {v i : V} {x : Value} {us : List V} {K : Kt} {f : List V -> List V}
theorem tup_items {G : Gl} {l : List V} (r : VR G s.heap π (.tup l) x) : Items s x := by
 induction r.tup_is with
 | mk e _ _ => exact ⟨"tuple", _, ⟨_, e, rfl⟩, PySem.F.slot_tuple_getitem.lookup⟩
theorem list_items {a : Addr} {vs : List Value} {n : Nat} (e : s.heap.get? a = some (lstO vs n)) : Items s (.ref a) := ⟨"list", _, ⟨_, e, rfl⟩, slot_list_getitem.lookup⟩
theorem idx_items {vs : List V} {y : Value} (I : Inv X.w.params X.G X.g₀ s.heap σ π) (q : IdxW K ρ σ vs) (r : V2 X.G s.heap π vs y x) : Items s x := by
 induction q with
 | tup _ _ _ => exact tup_items r.2
 | str _ _ _ _ => obtain ⟨t, rfl⟩ := r.2.str_inv; exact ⟨"str", _, typeIs_str _ _ _, PySem.F.slot_str_getitem.lookup⟩
 | loc h o _ =>
  have r' := r.2
  induction o with
  | last _ => induction I.list r' h with | mk _ _ e _ => exact list_items e
  | list _ _ => induction I.list r' h with | mk _ _ e _ => exact list_items e
  | dict _ _ => induction I.dict r' h with | mk _ _ e _ _ => exact ⟨"dict", _, ⟨_, e, rfl⟩, slot_dict_getitem.lookup⟩
theorem slice_items {vs : List V} (I : Inv X.w.params X.G X.g₀ s.heap σ π) (q : SliceW f K ρ σ vs) (r : V1 X.G s.heap π vs x) : Items s x := by
 induction q with
 | tup _ => exact tup_items r
 | rol _ => obtain ⟨ex, e, _, _, _⟩ := VR.rol_is r; rw [ex]; exact list_items e
 | list h _ => induction I.list r h with | mk _ _ e _ => exact list_items e
end
theorem ev_idx {a b : PySem.Expr} {wa wb : Kt -> Kt} (Y : FactsE X) (hi : ∀ o v, subscripted b false o v = operate [o, v] (getItem o v)) (ha : EvP X a wa) (hb : EvP X b wb) : EvP X (.Subscript a b pos) fun K => wa (wb (IdxW K)) := by
 intro A E s σ π ρ us K Qc H q k
 refine Subscript_ (ha A E s σ π ρ us _ _ H q fun va σ1 s1 π1 xa q1 I1 S1 z1 ra => ?_)
 refine hb A E s1 σ1 π1 ρ _ _ _ (H.next I1 S1) q1 fun vb σ2 s2 π2 xb q2 I2 S2 z2 rb => ?_
 obtain ⟨T, id, hT, hl⟩ := idx_items I2 q2 ⟨rb, ra.step I1 S2⟩
 exact tail_any hT hl (idxOK H.d.roomy Y.tb q2 I2 ⟨rb, ra.step I1 S2⟩ (k.next (S1.trans S2) (z1.trans z2))) (hi _ _)
theorem sliced {K : Kt} {us : List V} {Qc : Value -> Shared -> Prop} {k : Sl} {a : V} {x c1 c2 c3 : Value} {value slice : PySem.Expr} {ops : Value -> Value -> List Value} (q : SliceW k.f K ρ σ (a :: us)) (I : Inv X.w.params X.G X.g₀ s.heap σ π) (r : VR X.G s.heap π a x) (hp : SlParts k c1 c2 c3)
  (hs : ∀ o v, subscripted slice false o v = operate (ops o v) (getItem o v)) (kk : Kc X s π (fun v σ' => K ρ σ' (v :: us)) Qc) : wpAny (model X.prog X.w) A (subscriptTail value slice x (.ref s.heap.objs.size)) Qc E { s with heap := s.heap.push (slO c1 c2 c3) } := by
 obtain ⟨I1, S1⟩ := I.ext (h' := s.heap.push (slO c1 c2 c3)) fun b o e => Heap.get?_push_of_some _ e
 obtain ⟨T, id, hT, hl⟩ := slice_items (s := { s with heap := s.heap.push (slO c1 c2 c3) }) I1 q (r.step I S1)
 exact tail_any hT hl (sliceOK (s := { s with heap := s.heap.push (slO c1 c2 c3) }) q I1 (r.step I S1) hp (Heap.get?_push_size _ rfl) (kk.next (s' := { s with heap := s.heap.push (slO c1 c2 c3) }) S1 ⟨rfl, rfl⟩)) (hs _ _)
theorem ev_upto {a b : PySem.Expr} {p2 : Pos} {wa wb : Kt -> Kt} (ha : EvP X a wa) (hb : EvP X b wb) : EvP X (.Subscript a (.Slice none (some b) none p2) pos) fun K => wa (wb (SlicN List.take K)) := by
 intro A E s σ π ρ us K Qc H q k
 refine Subscript_ (ha A E s σ π ρ us _ _ H q fun va σ1 s1 π1 xa q1 I1 S1 z1 ra => wpAny_Slice (wpAny_pure ?_))
 refine hb A E s1 σ1 π1 ρ _ _ _ (H.next I1 S1) q1 fun vb σ2 s2 π2 xb q2 I2 S2 z2 rb => wpAny_pure ?_
 cases q2 with
 | mk e q2 =>
  subst e
  obtain ⟨t, rfl⟩ := rb.int_inv
  exact sliced (k := .upto _) q2 I2 (ra.step I1 S2) (.upto _ t) (fun o v => rfl) (k.next (S1.trans S2) (z1.trans z2))
theorem ev_from {a b : PySem.Expr} {p2 : Pos} {wa wb : Kt -> Kt} (ha : EvP X a wa) (hb : EvP X b wb) : EvP X (.Subscript a (.Slice (some b) none none p2) pos) fun K => wa (wb (SlicN List.drop K)) := by
 intro A E s σ π ρ us K Qc H q k
 refine Subscript_ (ha A E s σ π ρ us _ _ H q fun va σ1 s1 π1 xa q1 I1 S1 z1 ra => wpAny_Slice ?_)
 refine hb A E s1 σ1 π1 ρ _ _ _ (H.next I1 S1) q1 fun vb σ2 s2 π2 xb q2 I2 S2 z2 rb => wpAny_pure (wpAny_pure ?_)
 cases q2 with
 | mk e q2 =>
  subst e
  obtain ⟨t, rfl⟩ := rb.int_inv
  exact sliced (k := .from' _) q2 I2 (ra.step I1 S2) (.from' _ t) (fun o v => rfl) (k.next (S1.trans S2) (z1.trans z2))
theorem ev_all {a : PySem.Expr} {p2 : Pos} {wa : Kt -> Kt} (ha : EvP X a wa) : EvP X (.Subscript a (.Slice none none none p2) pos) fun K => wa (SliceW (fun l => l) K) := by
 intro A E s σ π ρ us K Qc H q k
 refine Subscript_ (ha A E s σ π ρ us _ _ H q fun va σ1 s1 π1 xa q1 I1 S1 z1 ra => wpAny_Slice (wpAny_pure (wpAny_pure (wpAny_pure ?_))))
 exact sliced (k := .all) q1 I1 ra .all (fun o v => rfl) (k.next S1 z1)
theorem ev_rev {a : PySem.Expr} {k1 : Nat} {p2 p3 p4 : Pos} {wa : Kt -> Kt} (ha : EvP X a wa) : EvP X (.Subscript a (.Slice none none (some (.UnaryOp .USub (.Constant (.int 1) k1 p3) p4)) p2) pos) fun K => wa (SliceW List.reverse K) := by
 intro A E s σ π ρ us K Qc H q k
 refine Subscript_ (ha A E s σ π ρ us _ _ H q fun va σ1 s1 π1 xa q1 I1 S1 z1 ra => wpAny_Slice (wpAny_pure (wpAny_pure (wpAny_UnaryOp (wpAny_Constant_int (PyProof.Rows.neg_int ?_))))))
 exact sliced (s := { s1 with toks := s1.toks + 1 + 1 }) (k := .rev) q1 I1 ra (.rev _) (fun o v => rfl) ((k.next S1 z1).next (s' := { s1 with toks := s1.toks + 1 + 1 }) (Step.refl _ _) ⟨rfl, rfl⟩)
end
noncomputable def Pl (env : Env) : List PySem.Expr -> Prop
 | [] => True
 | e :: r => starEach (e :: r) env = (false, eval e env) :: starEach r env /\ Pl env r
theorem Pl.any {env : Env} {pos : Pos} : ∀ {es : List PySem.Expr}, Pl env es -> (backTo pos (starEach es env)).any (·.1) = false := by
 intro es
 induction es with
 | nil => exact fun _ => rfl
 | cons e r ih => exact fun h => by rw [h.1]; exact ih h.2
noncomputable def callable (v : V) : Bool := match v with
 | .fn _ => true
 | .cls c => c.init.isSome
 | .bi b => Nat.blt b 5
 | _ => false
theorem biV_is {b : Bi} (h : Nat.blt b 5 = true) : (∃ id, biV b = .builtin id) ∨ ∃ T, biV b = .type T := by
 rcases b with _ | _ | _ | _ | _ | b
 ·exact .inl ⟨_, rfl⟩
 ·exact .inr ⟨_, rfl⟩
 ·exact .inr ⟨_, rfl⟩
 ·exact .inr ⟨_, rfl⟩
 ·exact .inr ⟨_, rfl⟩
 ·exact absurd (Nat.le_of_ble_eq_true h) (by show ¬ (b + 5 + 1 ≤ 5); omega)
section
variable {X : Cxt} {A : Around} {s s' : Shared} {σ σ' : St} {π π' : Pi} {ρ : Fr} {E : Value -> Shared -> Prop} {pos : Pos} {es : List PySem.Expr} {wl : (List V -> Kt) -> Kt} {us : List V} {Qc : Value -> Shared -> Prop}
theorem argsOK {K : List V -> Kt} {R : Args -> Shared -> Prop} {f : Value} (hs : Pl X.env es) (hl : LsP X es wl) (H : Stand X A s σ π ρ) (q : wl K ρ σ us)
  (k : KontL X.w.params X.G X.g₀ s π (fun vs σ' => K vs ρ σ' us) fun xs s' => R ⟨xs, []⟩ s') : wpAny (model X.prog X.w) A (evalArgs f true (backTo pos (starEach es X.env)) []) R E s := by
 have h := hl A E s σ π ρ us pos K (fun xs s' => R ⟨xs, []⟩ s') H q fun vs σ' s' π' xs q I S z r _ => k vs σ' s' π' xs q I S z r
 cases es with
 | nil =>
  show wpAny (model X.prog X.w) A (do let vs <- spliced (backTo pos (starEach [] X.env)); pure ⟨vs, []⟩) R E s
  exact wpAny_bind (wpAny_mono h (fun vs s' h' => wpAny_pure h') fun _ _ x => x)
 | cons e r =>
  rw [hs.1] at h ⊢
  exact evalArgs_plain h
theorem callWith_v {va : V} {f : Value} {args : List (Bool × Sem Value)} (Y : FactsE X) (hv : callable va = true) (rf : VR X.G s.heap π va f) (hp : args.any (·.1) = false)
  (fin : wpAny (model X.prog X.w) A (evalArgs f true args []) (fun a s₁ => X.K.In s₁.heap /\ wpAny (model X.prog X.w) A (call f ([] ++ a.pos) a.kw) Qc E s₁) E s) : wpAny (model X.prog X.w) A (callWith pos f [] args []) Qc E s := by
 have of : keepIn X.K f = true -> wpAny (model X.prog X.w) A (callWith pos f [] args []) Qc E s := fun h => callWith_of (P := fun h => X.K.In h) (by rw [hp]; rfl) (keeps_K h) fin
 cases va with
 | fn fn => obtain ⟨hf, rfl⟩ := VR.inv rf; exact of (Y.cls.fns fn hf).2
 | cls c =>
  obtain ⟨fi, hci⟩ := Option.isSome_iff_exists.mp hv
  have e : f = _ := VR.inv rf
  subst e
  exact of (Y.cls.made c fi hci).2.2.2
 | bi b =>
  clear of
  have fin := wpAny_mono fin (fun _ _ x => x.2) fun _ _ x => x
  have e : f = _ := VR.inv rf
  rcases biV_is hv with ⟨id, e'⟩ | ⟨T, e'⟩ <;> rw [e, e'] at fin <;> rw [e, e']
  ·exact callWith_builtin hp fin
  ·exact PySem.callWith_type hp fin
 | _ => exact absurd hv Bool.false_ne_true
theorem ev_call {g : PySem.Expr} {v : V} (Y : FactsE X) (hg : eval (.Call g es [] pos) X.env = (do callWith pos (<- eval g X.env) [] (backTo pos (starEach es X.env)) (backToKw pos (keywordEach [] X.env)))) (hv : callable v = true) (hs : Pl X.env es) (hf : EvP X g (kPush v)) (hl : LsP X es wl) :
  EvP X (.Call g es [] pos) fun K => kPush v (wl (CallW X.F K)) := by
 intro A E s σ π ρ us K Qc H q k
 rw [hg]
 refine wpAny_bind (hf A E s σ π ρ us (fun ρ' σ' vs => vs = v :: us /\ wl (CallW X.F K) ρ' σ' vs) _ H ⟨rfl, q⟩ fun va σ1 s1 π1 f q1 I1 S1 z1 rf => ?_)
 obtain ⟨e, q1⟩ := q1
 injection e with e
 subst e
 have H1 := H.next I1 S1
 have hp := Pl.any (pos := pos) hs
 have fin : wpAny (model X.prog X.w) A (evalArgs f true (backTo pos (starEach es X.env)) []) (fun a s₁ => X.K.In s₁.heap /\ wpAny (model X.prog X.w) A (call f ([] ++ a.pos) a.kw) Qc E s₁) E s1 :=
  argsOK hs hl H1 q1 fun vs σ2 s2 π2 xs q2 I2 S2 z2 rs => ⟨I2.keepK Y.inK, callOK Y.cls Y.inK Y.tb Y.sf H.d q2 I2 (rf.step I1 S2) rs (k.next (S1.trans S2) (z1.trans z2))⟩
 exact callWith_v Y hv rf hp fin
theorem MethW.fn {F : FnSem} {K : Kt} {o : V} {m : Me} {ws : List V} {c : Cl} {f : Fn} (q : MethW F K ρ σ us o m ws) (h : c.meth m = some f) : F f (o :: ws) (fun v σ' => K ρ σ' (v :: us)) σ := by
 induction q with
 | inst _ hf q => rw [<- meth_uniq hf h]; exact q
 | _ => exact (meth_bi h rfl).elim
theorem ev_meth {o : PySem.Expr} {m : Me} {apos : Pos} {wo : Kt -> Kt} (Y : FactsE X) (hline : (apos.endLine == pos.line) = true) (hc : ∀ t w, attributeBase o t X.env w = w) (hs : Pl X.env es) (hz : Nat.ble es.length 25 = true) (ho : EvP X o wo) (hl : LsP X es wl) :
  EvP X (.Call (.Attribute o (Str.ofString m.nm) apos) es [] pos) fun K => wo (MOk m (wl (kMeth X.F m K))) := by
 intro A E s σ π ρ us K Qc H q k
 show wpAny (model X.prog X.w) A (do
  let ov <- attributeBase o (Str.ofString m.nm) X.env (eval o X.env)
  standAt apos.atName
  methodCall o (Str.ofString m.nm) apos pos X.env ov (es.length + 0) (backTo pos (starEach es X.env)) (backToKw pos (keywordEach [] X.env))) Qc E s
 rw [hc]
 refine wpAny_bind (ho A E s σ π ρ us _ _ H q fun vo σ1 s1 π1 xo q1 I1 S1 z1 ro => wpAny_bind (wpAny_standAt ?_))
 have H1 := H.next I1 S1
 have hp := Pl.any (pos := pos) hs
 have few : methodCallForm (es.length + 0) (backTo pos (starEach es X.env)) (backToKw pos (keywordEach [] X.env)) = true := by
  unfold methodCallForm
  have h1 : (backTo pos (starEach es X.env)).all (fun x => !x.1) = true := by rw [<- List.not_any_eq_all_not, hp]; rfl
  have := Nat.le_of_ble_eq_true hz
  rw [show backToKw pos (keywordEach [] X.env) = [] from rfl]
  simp [h1]
  omega
 have hpos : ∀ M, methodCallPos M o X.env apos pos = pure pos := fun M => by unfold methodCallPos; simp [hline]
 unfold methodCall
 rw [few]
 refine wpAny_bind (wpAny_holding ?_)
 show wpAny (model X.prog X.w) A (getMethod xo (Str.ofString m.nm) (do return (<- importBound o X.env).getD true)) _ E s1
 refine methOK Y.cls Y.inK Y.tb q1 I1 ro (fun id hid q1 => ?_) (fun c f hcm q1 => ?_)
 ·rw [hpos]
  refine wpAny_bind (wpAny_pure (callWith_builtin hp ?_))
  exact argsOK (f := .builtin id) hs hl H1 q1 fun vs σ2 s2 π2 xs q2 I2 S2 z2 rs => bmethOK Y.tb H.d.roomy hid q2 I2 (ro.step I1 S2) rs (k.next (S1.trans S2) (z1.trans z2))
 ·rw [hpos]
  have hf := (Y.cls.meth c m f hcm).1
  refine wpAny_bind (wpAny_pure (callWith_of (P := fun h => X.K.In h) (by rw [hp]; rfl) (keeps_K (Y.cls.fns f hf).2) ?_))
  exact argsOK hs hl H1 q1 fun vs σ2 s2 π2 xs q2 I2 S2 z2 rs => ⟨I2.keepK Y.inK, callOK (vs := .fn f :: us) Y.cls Y.inK Y.tb Y.sf H.d (.fn (MethW.fn q2 hcm)) I2 (VR.fn hf) (.cons (ro.step I1 S2) rs) (k.next (S1.trans S2) (z1.trans z2))⟩
end
inductive KvR (G : Gl) (h : Heap) (π : Pi) : List (V × V) -> List (Value × Value) -> Prop
 | nil : KvR G h π [] []
 | cons {k v : V} {x y : Value} {kv : List (V × V)} {ps : List (Value × Value)} : VR G h π k x -> VR G h π v y -> KvR G h π kv ps -> KvR G h π ((k, v) :: kv) ((x, y) :: ps)
theorem KvR.side {G : Gl} {g₀ h h' : Heap} {π : Pi} {L : Addr} (D : Side G π g₀ h h' L) {kv : List (V × V)} {ps : List (Value × Value)} (x : KvR G h π kv ps) : KvR G h' π kv ps := by
 induction x with
 | nil => exact .nil
 | cons a b _ ih => exact .cons (a.side D) (b.side D) ih
theorem dget_out {kv : List (V × V)} {k : V} (h : dget kv k = none) : k ∉ kv.map (·.1) := by
 induction kv with
 | nil => exact List.not_mem_nil
 | cons a r ih =>
  obtain ⟨a, b⟩ := a
  unfold dget at h
  split at h
  ·cases h
  ·rename_i e
   exact fun m => (List.mem_cons.mp m).elim (fun z => e z.symm) (ih h)
theorem KeysOk.cons {kv : List (V × V)} {k v : V} (x : KeysOk kv) (ko : keyOk kv k) (hn : dget kv k = none) : KeysOk ((k, v) :: kv) := by
 obtain ⟨h1, h2, h3⟩ := x
 exact ⟨List.nodup_cons.mpr ⟨dget_out hn, h1⟩, Mine.kd k, ko.out.1, fun q hq => (List.mem_cons.mp hq).elim (fun e => by rw [e]) (ko.out.2 q)⟩
theorem ER.up {P : Params} {G : Gl} {h : Heap} {π π' : Pi} {hash : V -> Int} (u : ∀ {v x}, VR G h π v x -> VR G h π' v x) {kv : List (V × V)} {es : List DictEntry} (x : ER P G h π hash kv es) : ER P G h π' hash kv es := by
 induction x with
 | nil => exact .nil
 | cons a b _ ih => exact .cons (u a) (u b) ih
theorem dput_new {kv : List (V × V)} {k v : V} (h : k ∉ kv.map (·.1)) : dput kv k v = kv ++ [(k, v)] := by
 induction kv with
 | nil => rfl
 | cons a r ih =>
  obtain ⟨a, b⟩ := a
  rw [List.map_cons, List.mem_cons, not_or] at h
  exact (if_neg fun e => h.1 e.symm).trans (congrArg _ (ih h.2))
theorem KeysOk.mid {a b : List (V × V)} {k v : V} (x : KeysOk (a ++ (k, v) :: b)) : KeysOk a /\ keyOk a k /\ k ∉ a.map (·.1) := by
 obtain ⟨h1, c, h2, h3⟩ := x
 rw [List.map_append] at h1
 have n := List.nodup_append.mp h1
 have e := h3 (k, v) (List.mem_append_right _ (.head _))
 refine ⟨⟨n.1, c, h2, fun e he => h3 e (List.mem_append_left _ he)⟩, ?_, fun hm => n.2.2 _ hm _ (.head _) rfl⟩
 unfold keyOk
 exact ⟨fun z => h2 (e.symm.trans z), fun z hz => (h3 z (List.mem_append_left _ hz)).trans e.symm⟩
section
variable {prog : Program} {w : World} {G : Gl} {g₀ : Heap} {A : Around} {E : Value -> Shared -> Prop}
theorem storeLoop {π : Pi} {d : Addr} (hA : A.units + 100 < cLine) (na : d ∉ addrs π) (nb : g₀.get? d = none) (nl : d ≠ G.lst) {h0 : Heap} (s0 : Side G π g₀ h0 h0 d) {kv : List (V × V)} {ps : List (Value × Value)} (rp : KvR G h0 π kv ps) : ∀ (done : List (V × V)) (es : List DictEntry) (m : Nat) (s : Shared) (Q : PUnit -> Shared -> Prop),
  Side G π g₀ h0 s.heap d -> s.heap.get? d = some (dicO es m) -> ER w.params G s.heap π (hashV w.params) done es -> KeysOk (done ++ kv) -> (done ++ kv).length ≤ lim ->
  (∀ h' es' m' tk, Side G π g₀ h0 h' d -> h'.get? d = some (dicO es' m') -> ER w.params G h' π (hashV w.params) (done ++ kv) es' -> Q PUnit.unit { s with heap := h', toks := tk }) ->
  wpAny (model prog w) A (forIn ps PUnit.unit fun (x : Value × Value) (_ : PUnit) => (do dictSet d x.1 x.2; pure (ForInStep.yield PUnit.unit) : Sem (ForInStep PUnit))) Q E s := by
 induction rp with
 | nil =>
  intro done es m s Q D e R ko hz hQ
  rw [List.append_nil] at hQ
  exact wpAny_pure (hQ s.heap es m s.toks D e R)
 | cons rk rv rest ih =>
  intro done es m s Q D e R ko hz hQ
  obtain ⟨kd, kk, hn⟩ := ko.mid
  rw [List.forIn_cons]
  refine wpAny_bind (wpAny_bind (dictSetOK hA e R kd kk (rk.side D) (rv.side D) (Nat.lt_of_lt_of_le (by rw [List.length_append]; exact Nat.lt_add_of_pos_right (Nat.succ_pos _)) hz) fun h' es' m' tk ho he R' ko' hl => wpAny_pure ?_))
  have D' : Side G π g₀ h0 h' d := ⟨fun c o hc z => (ho c hc).trans (D.other c o hc z), D.old, na, nb, nl⟩
  have S' : Side G π g₀ s.heap h' d := ⟨fun c o hc z => (ho c hc).trans z, nt ⟨_, e, not_of_dict rfl⟩, na, nb, nl⟩
  rw [dput_new hn] at R' ko' hl
  refine ih (done ++ [_]) es' m' { s with heap := h', toks := tk } Q D' he (R'.side S') (by rw [List.append_assoc]; exact ko) (by rw [List.append_assoc]; exact hz) fun h'' es'' m'' tk' D'' he' R'' => ?_
  rw [List.append_assoc] at R''
  exact hQ h'' es'' m'' tk' D'' he' R''
end
noncomputable def prs (env : Env) (pos : Pos) : List PySem.Expr -> List (Sem Value × Sem Value)
 | a :: b :: r => (eval a env, do let x <- eval b env; standAt pos; pure x) :: prs env pos r
 | _ => []
noncomputable def evs : List PySem.Expr -> List (Option PySem.Expr)
 | a :: _ :: r => some a :: evs r
 | _ => []
noncomputable def ods : List PySem.Expr -> List PySem.Expr
 | _ :: b :: r => b :: ods r
 | _ => []
def DiP (X : Cxt) (es : List PySem.Expr) (wp : (List (V × V) -> Kt) -> Kt) : Prop :=
 ∀ A E s σ π ρ us pos K Qc, Stand X A s σ π ρ -> wp K ρ σ us -> (∀ kv σ' s' π' ps, K kv ρ σ' us -> Inv X.w.params X.G X.g₀ s'.heap σ' π' -> Step s.heap π s'.heap π' -> Same s s' -> KvR X.G s'.heap π' kv ps -> KeysOk kv -> kv.length = (prs X.env pos es).length -> Qc ps s') ->
  wpAny (model X.prog X.w) A (evalPairs (prs X.env pos es)) Qc E s
theorem KvR.step {P : Params} {G : Gl} {g₀ h h' : Heap} {σ : St} {π π' : Pi} (I : Inv P G g₀ h σ π) (S : Step h π h' π') {kv : List (V × V)} {ps : List (Value × Value)} (x : KvR G h π kv ps) : KvR G h' π' kv ps := by
 induction x with
 | nil => exact .nil
 | cons a b _ ih => exact .cons (a.step I S) (b.step I S) ih
section
variable {X : Cxt}
theorem di_nil : DiP X [] fun K => K [] := by
 intro A E s σ π ρ us pos K Qc H q k
 exact wpAny_pure (k [] σ s π [] q H.i (Step.refl _ _) ⟨rfl, rfl⟩ .nil .nil rfl)
theorem di_cons {a b : PySem.Expr} {es : List PySem.Expr} {wa wb : Kt -> Kt} {wd : (List (V × V) -> Kt) -> Kt} (ha : EvP X a wa) (hb : EvP X b wb) (hd : DiP X es wd) : DiP X (a :: b :: es) fun K => wa (wb (wd (DictW K))) := by
 intro A E s σ π ρ us pos K Qc H q kk
 show wpAny (model X.prog X.w) A (evalPairs ((eval a X.env, do let x <- eval b X.env; standAt pos; pure x) :: prs X.env pos es)) Qc E s
 refine evalPairs_cons (ha A E s σ π ρ us _ _ H q fun va σ1 s1 π1 xa q1 I1 S1 z1 ra => ?_)
 have H1 := H.next I1 S1
 refine wpAny_bind (hb A E s1 σ1 π1 ρ _ _ _ H1 q1 fun vb σ2 s2 π2 xb q2 I2 S2 z2 rb => wpAny_bind (wpAny_standAt (wpAny_pure ?_)))
 refine hd A E s2 σ2 π2 ρ _ pos _ _ (H1.next I2 S2) q2 fun kv σ3 s3 π3 ps q3 I3 S3 z3 rp ko hl => ?_
 have S23 := S2.trans S3
 cases q3 with
 | mk h1 h2 q3 => exact kk _ _ s3 π3 _ q3 I3 (S1.trans S23) (z1.trans (z2.trans z3)) (.cons (ra.step I1 S23) (rb.step I2 S3) rp) (ko.cons h1 h2) (congrArg Nat.succ hl)
theorem shapeD {env : Env} {pos : Pos} {es : List PySem.Expr} : (evalEachOpt (evs es) env).zip ((evalEach (ods es) env).map fun v => do let x <- v; standAt pos; pure x) = (prs env pos es).map fun p => (some p.1, p.2) := by
 fun_induction prs env pos es with
 | case1 a b r ih => exact congrArg (List.cons _) ih
 | case2 t h => cases t with
  | nil => rfl
  | cons a r => cases r with
   | nil => rfl
   | cons b r => exact (h _ _ _ rfl).elim
theorem ev_dict {es : List PySem.Expr} {pos : Pos} {wd : (List (V × V) -> Kt) -> Kt} (Y : FactsE X) (hne : ∀ p, prs X.env p es ≠ []) (hz : ∀ p, (prs X.env p es).length ≤ 15) (hd : DiP X es wd) : EvP X (.Dict (evs es) (ods es) pos) fun K => wd (kDict K) := by
 intro A E s σ π ρ us K Qc H q k
 have I := H.i
 rw [arm_eval_Dict, shapeD]
 refine wpAny_bind (wpAny_standAt ?_)
 have nd : s.heap.get? s.heap.objs.size = none := none_size _
 have nb : X.g₀.get? s.heap.objs.size = none := I.none_base nd
 have nl : s.heap.objs.size ≠ X.G.lst := fun z => by obtain ⟨o, e⟩ := Y.tb.lst; rw [<- z, nb] at e; cases e
 have na : s.heap.objs.size ∉ addrs π := I.none_addr nd
 obtain ⟨I0, S0⟩ := I.ext (h' := s.heap.push (dicO [] 0)) fun b o e => Heap.get?_push_of_some _ e
 have e0 : (s.heap.push (dicO [] 0)).get? s.heap.objs.size = some (dicO [] 0) := Heap.get?_push_size _ rfl
 have body : wpAny (model X.prog X.w) A (evalPairs (prs X.env pos es)) (fun ps s1 => wpAny (model X.prog X.w) A (forIn ps PUnit.unit fun (x : Value × Value) (_ : PUnit) => (do dictSet s.heap.objs.size x.1 x.2; pure (ForInStep.yield PUnit.unit) : Sem (ForInStep PUnit)))
   (fun _ s2 => Qc (.ref s.heap.objs.size) s2) E s1) E { s with heap := s.heap.push (dicO [] 0) } := by
  refine hd A E { s with heap := s.heap.push (dicO [] 0) } σ π ρ us pos _ _ (H.next (s' := { s with heap := s.heap.push (dicO [] 0) }) I0 S0) q fun kv σ1 s1 π1 ps q1 I1 S1 z1 rp ko hl => ?_
  have na1 : s.heap.objs.size ∉ addrs π1 := S1.apart e0 na
  have e1 := S1.keep _ _ e0 na
  have hlim : kv.length ≤ lim := Nat.le_trans (hl ▸ hz pos) (by decide)
  have S0' : Side X.G π1 X.g₀ s1.heap s1.heap s.heap.objs.size := ⟨fun _ _ _ e => e, nt ⟨_, e1, not_of_dict rfl⟩, na1, nb, nl⟩
  refine storeLoop (by have := H.d.u; omega) na1 nb nl S0' rp [] [] 0 s1 _ S0' e1 .nil ko hlim fun h' es' m' tk SD he R => ?_
  obtain ⟨I3, S3⟩ := (I1.side SD).adopt (o := .dict kv) na1 ⟨nb, (I.none_size' (Nat.le_refl _)).2⟩ nl he ⟨show Value.type "dict" ≠ _ by decide, show Value.type "dict" ≠ _ by decide⟩ nd ((S0.trans S1).side SD nd) (fun up => .dict hlim he (ER.up up R) ko)
  exact k _ _ { s1 with heap := h', toks := tk } _ _ q1 I3 S3 ⟨z1.1, z1.2⟩ (.loc (a := s.heap.objs.size) (d := none) (I1.len ▸ List.getElem?_concat_length))
 rw [dictDisplay_pairs _ (hne pos) (by have := hz pos; omega)]
 unfold subDict
 refine wpAny_bind (wpAny_bind (wpAny_alloc (wpAny_bind (wpAny_holding ?_))))
 rw [if_pos (hz pos)]
 refine wpAny_bind (wpAny_mono body (fun ps s1 h1 => wpAny_holding ?_) fun _ _ e => e)
 exact wpAny_bind (wpAny_mono h1 (fun _ s2 h2 => wpAny_pure (wpAny_pure (wpAny_pure h2))) fun _ _ e => e)
theorem ev_dict0 {pos : Pos} : EvP X (.Dict [] [] pos) fun K => kDict K [] := by
 intro A E s σ π ρ us K Qc H q k
 have I := H.i
 rw [arm_eval_Dict]
 refine wpAny_bind (wpAny_standAt ?_)
 show wpAny (model X.prog X.w) A newDict Qc E s
 refine wpAny_newObj_type ?_
 obtain ⟨I', S⟩ := I.alloc (h' := s.heap.push (dicO [] 0)) (p := (s.heap.objs.size, none)) (o := .dict []) (fun b o e => Heap.get?_push_of_some _ e) (List.forall_mem_cons.mpr ⟨I.none_size' (Nat.le_refl _), nofun⟩) (List.nodup_cons.mpr ⟨List.not_mem_nil, List.nodup_nil⟩)
  (fun S => .dict (Nat.zero_le _) (Heap.get?_push_size _ rfl) .nil .nil)
 exact k _ _ { s with heap := s.heap.push (dicO [] 0) } _ _ q I' S ⟨rfl, rfl⟩ (.loc (a := s.heap.objs.size) (d := none) (I.len ▸ List.getElem?_concat_length))
end
noncomputable abbrev itO (T : String) (fs : Array Value) : Obj := { cls := .type T, data := .fields fs }
inductive IT (G : Gl) (h : Heap) (π : Pi) (I : Addr) : List V -> Option Nat -> Nat -> Prop
 | tup {a : Addr} {vs : List Value} {l : List V} {i : Nat} : h.IsTupleIter I a i -> h.get? a = some (tupO vs) -> VRs G h π l vs -> IT G h π I l none i
 | list {a : Addr} {l : List V} {n i : Nat} : h.IsListIter I a i -> π[n]? = some (a, none) -> IT G h π I l (some n) i
 | rol {vs : List Value} {l : List V} {i n : Nat} : h.IsListIter I G.lst i -> h.get? G.lst = some (lstO vs n) -> G.lst ∉ addrs π -> VRs G h π l vs -> IT G h π I l none i
 | rng {lo hi : Int} {i : Nat} : h.get? I = some (itO "range_iterator" #[rawInt (lo + i), rawInt ((hi - lo).toNat - i : Int), rawInt 1]) -> IT G h π I (rngL lo hi) none i
theorem rngL_len {lo hi : Int} : (rngL lo hi).length = (hi - lo).toNat := by rw [rngL, ints_eq, List.length_map, List.length_range]
theorem not_named {o : Obj} {T : String} (h : o.cls = .type T) (h1 : T ≠ "tuple") (h2 : T ≠ "range") : (∀ vs, o ≠ tupO vs) /\ ∀ lo hi t u v, o ≠ rngO lo hi t u v :=
 not_of_cls (by rw [h]; exact fun e => h1 (Value.type.inj e)) (by rw [h]; exact fun e => h2 (Value.type.inj e))
theorem IT.alive {G : Gl} {h : Heap} {π : Pi} {I : Addr} {l : List V} {ℓ : Option Nat} {i : Nat} (x : IT G h π I l ℓ i) : ∃ o, h.get? I = some o /\ (∀ vs, o ≠ tupO vs) /\ ∀ lo hi t u v, o ≠ rngO lo hi t u v := by
 induction x with
 | tup a _ _ => obtain ⟨o, ho, hc, _⟩ := a; exact ⟨o, ho, not_named hc (by decide) (by decide)⟩
 | list a _ => obtain ⟨o, ho, hc, _⟩ := a; exact ⟨o, ho, not_named hc (by decide) (by decide)⟩
 | rol a _ _ _ => obtain ⟨o, ho, hc, _⟩ := a; exact ⟨o, ho, not_named hc (by decide) (by decide)⟩
 | rng a => exact ⟨_, a, not_named rfl (by decide) (by decide)⟩
section
variable {P : Params} {G : Gl} {g₀ h h' : Heap} {σ : St} {π π' : Pi} {I L : Addr} {l : List V} {ℓ : Option Nat} {i : Nat}
theorem IT.step (J : Inv P G g₀ h σ π) (S : Step h π h' π') (n : I ∉ addrs π) (x : IT G h π I l ℓ i) : IT G h' π' I l ℓ i := by
 induction x with
 | tup a b c => obtain ⟨o, ho, r⟩ := a; exact .tup ⟨o, S.keep _ _ ho n, r⟩ (S.keep _ _ b (J.not_tup b)) (c.step J S)
 | list a b => obtain ⟨o, ho, r⟩ := a; exact .list ⟨o, S.keep _ _ ho n, r⟩ (S.pre _ _ b)
 | rol a b m c => obtain ⟨o, ho, r⟩ := a; exact .rol ⟨o, S.keep _ _ ho n, r⟩ (S.keep _ _ b m) (S.apart b m) (c.step J S)
 | rng a => exact .rng (S.keep _ _ a n)
theorem IT.side (D : Side G π g₀ h h' L) (n : I ≠ L) (x : IT G h π I l ℓ i) : IT G h' π I l ℓ i := by
 induction x with
 | tup a b c => obtain ⟨o, ho, r⟩ := a; exact .tup ⟨o, D.other _ _ n ho, r⟩ (D.other _ _ (fun z => (D.old _ (z ▸ b)).1 _ rfl) b) (c.side D)
 | list a b => obtain ⟨o, ho, r⟩ := a; exact .list ⟨o, D.other _ _ n ho, r⟩ b
 | rol a b m c => obtain ⟨o, ho, r⟩ := a; exact .rol ⟨o, D.other _ _ n ho, r⟩ (D.other _ _ (fun z => D.lst z.symm) b) m (c.side D)
 | rng a => exact .rng (D.other _ _ n a)
end
section
variable {prog : Program} {w : World} {G : Gl} {g₀ : Heap} {A : Around} {E : Value -> Shared -> Prop} {s : Shared} {σ : St} {π : Pi} {l : List V} {ℓ : Option Nat} {I : Addr} {i : Nat}
theorem iter_new {v : V} {x : Value} {Q : Value -> Shared -> Prop} (q : SrcW σ v l ℓ) (J : Inv w.params G g₀ s.heap σ π) (r : VR G s.heap π v x)
  (h : ∀ o, Step s.heap π (s.heap.push o) π -> Inv w.params G g₀ (s.heap.push o) σ π -> IT G (s.heap.push o) π s.heap.objs.size l ℓ 0 -> Q (.ref s.heap.objs.size) { s with heap := s.heap.push o }) : wpAny (model prog w) A (pyIter x) Q E s := by
 have pu : ∀ o : Obj, Inv w.params G g₀ (s.heap.push o) σ π /\ Step s.heap π (s.heap.push o) π := fun o => J.ext fun b o' e => Heap.get?_push_of_some _ e
 have up : ∀ {o : Obj} {b o'}, s.heap.get? b = some o' -> (s.heap.push o).get? b = some o' := fun e => Heap.get?_push_of_some _ e
 induction q with
 | tup l =>
  induction r.tup_is with
  | @mk a vs e rv _ =>
  refine wpAny_pyIter_tuple (items := vs.toArray) ⟨_, e, rfl, 0, rfl⟩ ?_
  obtain ⟨J', S⟩ := pu (itO "tuple_iterator" #[.ref a, .int 0 0])
  exact h _ S J' (.tup ⟨_, Heap.get?_push_size _ rfl, rfl, rfl⟩ (up e) (rv.step J S))
 | rol l =>
  obtain ⟨ex, e, m, hl, rv⟩ := r.rol_is
  rename_i vs n
  rw [ex]
  refine wpAny_pyIter_list (items := vs.toArray) ⟨_, e, rfl, n, rfl⟩ ?_
  obtain ⟨J', S⟩ := pu (itO "list_iterator" #[.ref G.lst, .int 0 0])
  exact h _ S J' (.rol ⟨_, Heap.get?_push_size _ rfl, rfl, rfl⟩ (up e) m (rv.step J S))
 | rng lo hi =>
  induction r.rng_is with
  | mk e fa fb =>
  refine wpAny_pyIter_range e (small_range fa fb) ?_
  obtain ⟨J', S⟩ := pu (itO "range_iterator" #[rawInt lo, rawInt (Builtin.Range.rangeSize lo hi 1), rawInt 1])
  refine h _ S J' (.rng ?_)
  rw [Heap.get?_push_size _ rfl, rangeSize_nat]
  simp
 | list hs =>
  induction J.list r hs with
  | @mk a vs n p hl e rv =>
  refine wpAny_pyIter_list (items := vs.toArray) ⟨_, e, rfl, n, rfl⟩ ?_
  obtain ⟨J', S⟩ := pu (itO "list_iterator" #[.ref a, .int 0 0])
  exact h _ S J' (.list ⟨_, Heap.get?_push_size _ rfl, rfl, rfl⟩ p)
theorem iter_self {Q : Value -> Shared -> Prop} (x : IT G s.heap π I l ℓ i) (h : Q (.ref I) s) : wpAny (model prog w) A (pyIter (.ref I)) Q E s := by
 induction x with
 | tup a _ _ => exact wpAny_pyIter_tupleiter a h
 | list a _ => exact wpAny_pyIter_listiter a h
 | rol a _ _ _ => exact wpAny_pyIter_listiter a h
 | rng a => exact wpAny_pyIter_rangeiter a h
structure ItOK (G : Gl) (g₀ : Heap) (π : Pi) (I : Addr) : Prop where
 na : I ∉ addrs π
 nb : g₀.get? I = none
 nl : I ≠ G.lst
theorem next_item {v : V} {Q : Option Value -> Shared -> Prop} (x : IT G s.heap π I l ℓ i) (hv : l[i]? = some v) (lv : live σ l ℓ) (J : Inv w.params G g₀ s.heap σ π) (O : ItOK G g₀ π I)
  (h : ∀ y h' tk, VR G s.heap π v y -> Side G π g₀ s.heap h' I -> IT G h' π I l ℓ (i + 1) -> Q (some y) { s with heap := h', toks := tk }) : wpAny (model prog w) A (pyNext (.ref I)) Q E s := by
 have sd : ∀ h', Heap.SameBut I s.heap h' -> Side G π g₀ s.heap h' I := fun h' sb => ⟨fun c o hc e => (sb.2 c hc).trans e, nt x.alive, O.na, O.nb, O.nl⟩
 induction x with
 | tup a b c =>
  obtain ⟨y, hy, ry⟩ := c.get hv
  refine wpAny_pyNext_tuple_item a ⟨_, b, rfl, 0, rfl⟩ (x := y) (by rw [List.getElem?_toArray]; exact hy) fun h' hi sb => ?_
  have D := sd h' sb
  exact h y h' s.toks ry D (.tup hi (D.other _ _ (fun z => (D.old _ (z ▸ b)).1 _ rfl) b) (c.side D))
 | list a b =>
  obtain ⟨_, hl, e, rv⟩ := (show ORl _ _ _ _ _ from J.rep _ _ _ lv b)
  obtain ⟨y, hy, ry⟩ := rv.get hv
  exact wpAny_pyNext_list_item a ⟨_, e, rfl, _, rfl⟩ (x := y) (by rw [List.getElem?_toArray]; exact hy) fun h' hi sb => h y h' s.toks ry (sd h' sb) (.list hi b)
 | rol a b m c =>
  rename_i vs _ _ n
  obtain ⟨y, hy, ry⟩ := c.get hv
  refine wpAny_pyNext_list_item a ⟨_, b, rfl, n, rfl⟩ (x := y) (by rw [List.getElem?_toArray]; exact hy) fun h' hi sb => ?_
  have D := sd h' sb
  exact h y h' s.toks ry D (.rol hi (D.other _ _ (fun z => O.nl z.symm) b) m (c.side D))
 | @rng lo hi i a =>
  have hi' : i < (hi - lo).toNat := rngL_len ▸ (List.getElem?_eq_some_iff.mp hv).1
  refine wpAny_pyNext_range_item a (by omega) fun h' hit sb => ?_
  rw [rngL, ints_eq, List.getElem?_map, List.getElem?_range hi'] at hv
  cases hv
  refine h _ h' (s.toks + 1) (.int _ _) (sd h' sb) (.rng ?_)
  rw [show lo + ((i + 1 : Nat) : Int) = lo + i + 1 by omega, show (((hi - lo).toNat : Int) - ((i + 1 : Nat) : Int)) = (((hi - lo).toNat : Int) - (i : Int)) - 1 by omega]
  exact hit
theorem next_end {Q : Option Value -> Shared -> Prop} (hA : A.handled = none) (x : IT G s.heap π I l ℓ i) (hv : i = l.length) (lv : live σ l ℓ) (J : Inv w.params G g₀ s.heap σ π) (O : ItOK G g₀ π I)
  (h : ∀ h' tk, Side G π g₀ s.heap h' I -> Q none { s with heap := h', toks := tk }) : wpAny (model prog w) A (pyNext (.ref I)) Q E s := by
 have sd : ∀ h', Heap.ExtBut I s.heap h' -> Q none { s with heap := h' } := fun h' sb => h h' s.toks ⟨fun c o hc e => sb c o hc e, nt x.alive, O.na, O.nb, O.nl⟩
 have ln : ∀ {vs : List Value}, VRs G s.heap π l vs -> vs.toArray[i]? = none := fun r => by rw [List.getElem?_toArray, hv, r.length]; exact List.getElem?_eq_none (Nat.le_refl _)
 clear h
 induction x with
 | tup a b c => exact wpAny_pyNext_tuple_end hA a ⟨_, b, rfl, 0, rfl⟩ (ln c) sd
 | list a b =>
  obtain ⟨_, hl, e, rv⟩ := (show ORl _ _ _ _ _ from J.rep _ _ _ lv b)
  exact wpAny_pyNext_list_end hA a ⟨_, e, rfl, _, rfl⟩ (ln rv) sd
 | rol a b m c => exact wpAny_pyNext_list_end hA a ⟨_, b, rfl, _, rfl⟩ (ln c) sd
 | @rng lo hi _ a =>
  rw [rngL_len] at hv
  exact wpAny_pyNext_range_end hA a (by omega) sd
def Owns (tg : PySem.Expr) (v : Value) : Prop := (∀ it, letOwnedTupleGo tg it v = pure ()) ∨ ∃ es k p a, tg = .Tuple es k p /\ v = .ref a
theorem letOwned {tg : PySem.Expr} {v : Value} {Q : Unit -> Shared -> Prop} (x : IT G s.heap π I l ℓ i) (ht : Owns tg v) (h : Q () s) : wpAny (model prog w) A (letOwnedTupleGo tg (.ref I) v) Q E s := by
 rcases ht with e | ⟨es, k, p, a, rfl, rfl⟩
 ·rw [e]; exact wpAny_pure h
 have key : ∀ o n vs, s.heap.get? I = some o -> o.cls = .type n -> o.data = .fields vs -> (["enumerate", "zip", "dict_itemiterator", "dict_reverseitemiterator", "odict_iterator", "itertools.zip_longest", "itertools.pairwise"].contains n) = false -> wpAny (model prog w) A (letOwnedTupleGo (.Tuple es k p) (.ref I) (.ref a)) Q E s := by
  intro o n vs ho hc hd hn
  unfold letOwnedTupleGo
  refine wpAny_bind (wpAny_load ho ?_)
  rw [hc, hd]
  show wpAny _ A (if (_ && (vs[0]? == some (rawInt a))) = true then _ else _) Q E s
  rw [hn]
  exact wpAny_pure h
 clear h
 induction x with
 | tup a _ _ => obtain ⟨o, ho, hc, hd⟩ := a; exact key o _ _ ho hc hd (by decide)
 | list a _ => obtain ⟨o, ho, hc, hd⟩ := a; exact key o _ _ ho hc hd (by decide)
 | rol a _ _ _ => obtain ⟨o, ho, hc, hd⟩ := a; exact key o _ _ ho hc hd (by decide)
 | rng a => exact key _ _ _ a rfl rfl (by decide)
end
noncomputable def mkNames : List String -> List PySem.Expr -> List PySem.Expr
 | [], _ => []
 | x :: xs, es => .Name (Str.ofString x) (es.headD default).pos :: mkNames xs es.tail
theorem Side.refl {G : Gl} {g₀ h : Heap} {π : Pi} {L : Addr} (o : ∀ o, h.get? L = some o -> (∀ vs, o ≠ tupO vs) /\ ∀ lo hi t u v, o ≠ rngO lo hi t u v) (na : L ∉ addrs π) (nb : g₀.get? L = none) (nl : L ≠ G.lst) : Side G π g₀ h h L := ⟨fun _ _ _ e => e, o, na, nb, nl⟩
theorem Side.trans {G : Gl} {g₀ h h' h'' : Heap} {π : Pi} {L : Addr} (a : Side G π g₀ h h' L) (b : Side G π g₀ h' h'' L) : Side G π g₀ h h'' L := ⟨fun c o n e => b.other c o n (a.other c o n e), a.old, a.apart, a.base, a.lst⟩
structure Own (G : Gl) (π : Pi) (g₀ h : Heap) (L : Addr) (m : Str -> Option Value) : Prop where
 ns : h.Ns L m
 apart : L ∉ addrs π
 base : g₀.get? L = none
 lst : L ≠ G.lst
section
variable {prog : Program} {w : World} {G : Gl} {g₀ h h' : Heap} {A : Around} {E : Value -> Shared -> Prop} {s : Shared} {π π' : Pi} {env : Env} {m : Str -> Option Value} {L C : Addr} {Q : Unit -> Shared -> Prop}
theorem Own.side (O : Own G π g₀ h L m) (D : Side G π g₀ h h' C) (n : L ≠ C) : Own G π g₀ h' L m := by
 obtain ⟨o, es, ep, ho, r⟩ := O.ns
 exact ⟨⟨o, es, ep, D.other _ _ n ho, r⟩, O.apart, O.base, O.lst⟩
theorem Own.step (O : Own G π g₀ h L m) (S : Step h π h' π') : Own G π' g₀ h' L m := by
 obtain ⟨o, es, ep, ho, r⟩ := O.ns
 exact ⟨⟨o, es, ep, S.keep _ _ ho O.apart, r⟩, S.apart ho O.apart, O.base, O.lst⟩
theorem Own.turn (O : Own G π g₀ h L m) (hs : Heap.SameBut L h h') : Side G π g₀ h h' L := by
 obtain ⟨o, es, ep, ho, hd, _⟩ := O.ns
 exact ⟨fun c o hc e => (hs.2 c hc).trans e, nt ⟨o, ho, not_of_dict hd⟩, O.apart, O.base, O.lst⟩
theorem storeLocal {x : Str} {v : Value} (hk : env.scope.kind = .function) (hl : env.kindOf x = some .local) (O : Own G π g₀ s.heap env.locals m)
  (h : ∀ h' tk, Side G π g₀ s.heap h' env.locals -> Own G π g₀ h' env.locals (fun y => if y = x then some v else m y) -> Q () { s with heap := h', toks := tk }) : wpAny (model prog w) A (storeName env x v) Q E s :=
 wpAny_storeName_local hl O.ns (fun h' hn hs => h h' (s.toks + 1) (O.turn hs) ⟨hn, O.apart, O.base, O.lst⟩) (by rw [hk]; rfl)
theorem storeNames {J : List String -> List Value -> Shared -> Prop} (stp : ∀ x xs ys s, J (x :: xs) ys s -> ∃ y ys', ys = y :: ys' /\ ∀ Q : Unit -> Shared -> Prop, (∀ s', J xs ys' s' -> Q () s') -> wpAny (model prog w) A (storeName env (Str.ofString x) y) Q E s) :
  ∀ (xs : List String) {es : List PySem.Expr} {ys : List Value} {s : Shared}, J xs ys s -> (∀ ys s, J [] ys s -> ys = [] /\ Q () s) -> wpAny (model prog w) A (assignInOrder ((assignEach (mkNames xs es) env).map (·.2)) ys) Q E s := by
 intro xs
 induction xs with
 | nil =>
  intro es ys s j fin
  obtain ⟨rfl, q⟩ := fin ys s j
  exact wpAny_pure q
 | cons x xs ih =>
  intro es ys s j fin
  obtain ⟨y, ys', rfl, go⟩ := stp x xs ys s j
  exact wpAny_bind (wpAny_holding (wpAny_assign_Name (go _ fun s' j' => ih j' fin)))
theorem names_len : ∀ (xs : List String) {es : List PySem.Expr}, (assignEach (mkNames xs es) env).length = xs.length /\ (assignEach (mkNames xs es) env).findIdx? (·.1) = none := by
 intro xs
 induction xs with
 | nil => exact fun {es} => ⟨rfl, rfl⟩
 | cons x xs ih =>
  intro es
  refine ⟨congrArg Nat.succ ih.1, ?_⟩
  show List.findIdx? _ ((false, _) :: assignEach (mkNames xs es.tail) env) = none
  rw [List.findIdx?_cons, ih.2]; rfl
theorem unpackNames {J : List String -> List Value -> Shared -> Prop} (hA : A.handled = none) {xs : List String} {es : List PySem.Expr} {kk : Nat} {pos : Pos} {l : List V} {y : Value} (hl : l.length = xs.length) (ry : VR G s.heap π (.tup l) y)
  (stp : ∀ x xs ys s, J (x :: xs) ys s -> ∃ y ys', ys = y :: ys' /\ ∀ Q : Unit -> Shared -> Prop, (∀ s', J xs ys' s' -> Q () s') -> wpAny (model prog w) A (storeName env (Str.ofString x) y) Q E s)
  (beg : ∀ ys h', (∀ b o, s.heap.get? b = some o -> h'.get? b = some o) -> VRs G s.heap π l ys -> J xs ys { s with heap := h' }) (fin : ∀ ys s, J [] ys s -> ys = [] /\ Q () s) : wpAny (model prog w) A (assign (.Tuple (mkNames xs es) kk pos) env y) Q E s := by
 induction ry.tup_is with
 | @mk a ys e rs _ =>
 obtain ⟨h1, h2⟩ := names_len (env := env) xs (es := es)
 refine assign_Tuple_tuple hA ⟨_, e, rfl, 0, rfl⟩ (by rw [h1, List.size_toArray, <- rs.length, hl]) h2 fun h' he => ?_
 exact storeNames stp xs (beg ys h' (fun b o e => he b o (Nat.ne_of_lt (Heap.lt_size e)) e) rs) fin
end
noncomputable def mkTg (k : Nat) (cv : List String) (es : List PySem.Expr) (kk : Nat) (pos : Pos) : PySem.Expr := Nat.casesOn k (.Name (Str.ofString (cv.headD "")) pos) fun _ => .Tuple (mkNames cv es) kk pos
noncomputable def tgN (k : Nat) : Nat := Nat.casesOn k 1 fun k => k + 1
section
variable {prog : Program} {w : World} {G : Gl} {g₀ : Heap} {A : Around} {E : Value -> Shared -> Prop} {s : Shared} {σ : St} {π : Pi} {env : Env} {m : Str -> Option Value} {Q : Unit -> Shared -> Prop}
def Nmd (G : Gl) (h : Heap) (π : Pi) (cv : List String) (κ : List V) (n : Nat) (m : Str -> Option Value) : Prop := ∀ (i : Nat) x v, i < n -> cv[i]? = some x -> κ[i]? = some v -> ∃ y, m (Str.ofString x) = some y /\ VR G h π v y
theorem Nmd.more {P : Params} {h h' : Heap} {cv : List String} {κ : List V} {n : Nat} {x : String} {v : V} {y : Value} {L : Addr} (H : Nmd G h π cv κ n m) (D : Side G π g₀ h h' L) (nd : cv.Nodup) (hx : cv[n]? = some x) (hv : κ[n]? = some v) (r : VR G h π v y) :
  Nmd G h' π cv κ (n + 1) fun z => if z = Str.ofString x then some y else m z := by
 intro i z u hi hz hu
 rcases Nat.lt_succ_iff_lt_or_eq.mp hi with hi | rfl
 ·obtain ⟨y', h1, h2⟩ := H i z u hi hz hu
  refine ⟨y', (if_neg fun e => ?_).trans h1, h2.side D⟩
  rw [ofString_inj e, <- hx] at hz
  exact Nat.ne_of_lt hi ((List.getElem?_inj (List.getElem?_eq_some_iff.mp (hz.trans hx)).1 nd).mp hz)
 ·rw [hx] at hz; rw [hv] at hu; cases hz; cases hu
  exact ⟨y, if_pos rfl, r.side D⟩
theorem storeTgt {P : Params} (hA : A.handled = none) {k kk : Nat} {cv : List String} {es : List PySem.Expr} {pos : Pos} {v : V} {y : Value} {κ : List V} (I : Inv P G g₀ s.heap σ π) (hk : env.scope.kind = .function) (hn : cv.length = tgN k) (nd : cv.Nodup) (hv : tgt k v = some κ) (hl : ∀ x ∈ cv, env.kindOf (Str.ofString x) = some .local)
  (O : Own G π g₀ s.heap env.locals m) (ry : VR G s.heap π v y)
  (h : ∀ s' m', Same s s' -> Side G π g₀ s.heap s'.heap env.locals -> Own G π g₀ s'.heap env.locals m' -> Nmd G s'.heap π cv κ cv.length m' -> Q () s') :
  wpAny (model prog w) A (assign (mkTg k cv es kk pos) env y) Q E s /\ Owns (mkTg k cv es kk pos) y := by
 have D0 : Side G π g₀ s.heap s.heap env.locals := O.turn ⟨rfl, fun _ _ => rfl⟩
 cases k with
 | zero =>
  obtain ⟨x, rfl⟩ := List.length_eq_one_iff.mp hn
  cases hv
  refine ⟨wpAny_assign_Name (storeLocal hk (hl x (.head _)) O fun h' tk D O' => h { s with heap := h', toks := tk } _ ⟨rfl, rfl⟩ D O' (Nmd.more (n := 0) (P := P) (fun i x v hi => nomatch hi) D nd rfl rfl ry)), .inl fun _ => rfl⟩
 | succ k =>
  cases v with
  | tup l =>
   have hv : (if l.length = k + 1 then some l else none) = some κ := hv
   split at hv
   ·rename_i hlen
    cases hv
    refine ⟨?_, ?_⟩
    ·refine unpackNames (G := G) (J := fun xs ys s' => ∃ (n : Nat) (m' : _), cv.drop n = xs /\ n ≤ cv.length /\ VRs G s'.heap π (κ.drop n) ys /\ Same s s' /\ Side G π g₀ s.heap s'.heap env.locals /\ Own G π g₀ s'.heap env.locals m' /\ Nmd G s'.heap π cv κ n m') hA (hlen.trans hn.symm) ry ?_ ?_ ?_
     ·rintro x xs ys s' ⟨n, m', e, hn', rs, z, D, O', Hs⟩
      have hx : cv[n]? = some x := by rw [<- List.head?_drop, e]; rfl
      have hl' : n < κ.length := by rw [hlen, <- show cv.length = k + 1 from hn]; exact (List.getElem?_eq_some_iff.mp hx).1
      rw [List.drop_eq_getElem_cons hl'] at rs
      obtain ⟨y, ys', rfl, r, rs⟩ := rs.uncons
      refine ⟨y, ys', rfl, fun Q go => storeLocal hk (hl x (List.mem_of_getElem? hx)) O' fun h' tk D' O2 => go { s' with heap := h', toks := tk } ⟨n + 1, _, ?_, (List.getElem?_eq_some_iff.mp hx).1, rs.side D', z, D.trans D', O2, Nmd.more (P := P) Hs D' nd hx (List.getElem?_eq_getElem hl') r⟩⟩
      rw [<- List.drop_drop, e]; rfl
     ·intro ys h' ke rs
      obtain ⟨I', S⟩ := I.ext ke
      have O' := O.step S
      exact ⟨0, m, rfl, Nat.zero_le _, rs.step I S, ⟨rfl, rfl⟩, ⟨fun c o _ e => ke c o e, D0.old, O.apart, O.base, O.lst⟩, O', fun i x v hi => nomatch hi⟩
     ·rintro ys s' ⟨n, m', e, hn', rs, z, D, O', Hs⟩
      have hc : n = cv.length := Nat.le_antisymm hn' (List.drop_eq_nil_iff.mp e)
      subst hc
      rw [show cv.length = k + 1 from hn, <- hlen, List.drop_length] at rs
      exact ⟨rs.unnil, h s' m' z D O' Hs⟩
    ·induction ry.tup_is with
     | mk _ _ _ => exact .inr ⟨_, _, _, _, rfl, rfl⟩
   ·cases hv
  | _ => cases hv
end
noncomputable def relNames (nm sc : List (Str × NameKind)) : List (Str × NameKind) := sc.map fun (n, k) => if (k == .free && nm.lookup n == some .cell) then (n, .cell) else (n, k)
theorem relabel_names {sc : Scope} {env : Env} (h : env.scope.kind = .function) : (relabel sc env).names = relNames env.scope.names sc.names := by
 unfold relabel relNames
 rw [h]
 refine List.map_congr_left fun p _ => ?_
 show (if (p.2 == .free && (ScopeKind.function == .function) && env.scope.names.lookup p.1 == some .cell) = true then (p.1, NameKind.cell) else (p.1, p.2)) = _
 rw [show (ScopeKind.function == .function) = true from rfl, Bool.and_true]
theorem mem_of_lookup {α β : Type} [BEq α] [LawfulBEq α] {x : α} {y : β} {l : List (α × β)} : l.lookup x = some y -> (x, y) ∈ l := by
 induction l with
 | nil => exact nofun
 | cons p r ih =>
  obtain ⟨a, b⟩ := p
  intro h
  rw [List.lookup_cons] at h
  split at h
  ·rename_i e; cases h; rw [beq_iff_eq.mp e]; exact .head _
  ·exact .tail _ (ih h)
theorem closure_go {env : Env} (names : List (Str × NameKind)) : ∀ (acc : List (Str × Addr)), (∀ p ∈ names, p.2 = .free -> ∃ c, env.cells.lookup p.1 = some c) ->
  ∃ cl, (forIn (m := Sem) names acc (fun x r => match x with | (name, kind) => if (kind == NameKind.free) = true then do let c <- cellOf env name; pure (ForInStep.yield ((name, c) :: r)) else pure (ForInStep.yield r)) = pure cl) /\
   (∀ x c, (acc.lookup x = some c -> env.cells.lookup x = some c) -> cl.lookup x = some c -> env.cells.lookup x = some c) /\ (∀ p ∈ names, p.2 = .free -> (cl.lookup p.1).isSome) /\ (∀ x, (acc.lookup x).isSome -> (cl.lookup x).isSome) := by
 induction names with
 | nil => exact fun acc h => ⟨acc, rfl, fun x c h => h, nofun, fun x h => h⟩
 | cons q r ih =>
  obtain ⟨n, k⟩ := q
  intro acc h
  rw [List.forIn_cons]
  by_cases hk : k = .free
  ·subst hk
   obtain ⟨c, hc⟩ := h (n, .free) (.head _) rfl
   have e1 : cellOf env n = pure c := by unfold cellOf; rw [hc]
   obtain ⟨cl, g1, g2, g3, g4⟩ := ih ((n, c) :: acc) fun p hp => h p (.tail _ hp)
   refine ⟨cl, ?_, fun x d hx hl => g2 x d (fun q => ?_) hl, fun p hp hf => ?_, fun x hx => g4 x ?_⟩
   ·simp only [show (NameKind.free == NameKind.free) = true from rfl, if_true, e1, pure_bind]
    exact g1
   ·rw [List.lookup_cons] at q
    split at q
    ·rename_i e; cases q; rw [beq_iff_eq.mp e]; exact hc
    ·exact hx q
   ·rcases List.mem_cons.mp hp with rfl | hp
    ·exact g4 _ (by simp)
    ·exact g3 p hp hf
   ·rw [List.lookup_cons]; split
    ·rfl
    ·exact hx
  ·have hb : (k == NameKind.free) = false := by cases k <;> first | rfl | exact absurd rfl hk
   obtain ⟨cl, g1, g2, g3, g4⟩ := ih acc fun p hp => h p (.tail _ hp)
   refine ⟨cl, ?_, g2, fun p hp hf => ?_, g4⟩
   ·simp only [hb, Bool.false_eq_true, if_false, pure_bind]
    exact g1
   ·exact (List.mem_cons.mp hp).elim (fun e => absurd (show k = .free by rw [e] at hf; exact hf) hk) fun hp => g3 p hp hf
theorem closure_ok {sc : Scope} {env : Env} (h : ∀ p ∈ sc.names, p.2 = .free -> ∃ c, env.cells.lookup p.1 = some c) :
  ∃ cl, closureFor sc env = pure cl /\ (∀ x c, cl.lookup x = some c -> env.cells.lookup x = some c) /\ (∀ p ∈ sc.names, p.2 = .free -> (cl.lookup p.1).isSome) := by
 obtain ⟨cl, g1, g2, g3, g4⟩ := closure_go (env := env) sc.names [] h
 refine ⟨cl, ?_, fun x c hx => g2 x c nofun hx, g3⟩
 exact Eq.trans (b := (pure cl : Sem _) >>= fun s => pure s) (congrArg (fun t : Sem (List (Str × Addr)) => t >>= fun s => pure s) g1) rfl
theorem compLoop_go {prog : Program} {w : World} {A : Around} {s : Shared} {R : Result -> Shared -> Prop} {elt target iter : PySem.Expr} {ifs : List PySem.Expr} {scope : Scope} {pos : Pos} {it acc : Value} {env : Env} (J : Nat -> Shared -> Prop)
  (turn : ∀ n s E, J n s -> wpAny (model prog w) A (pyNext it) (fun r s₁ => match r with
   | none => R (.ok .next) s₁
   | some v => wpAny (model prog w) A (letOwnedTupleGo target it v) (fun _ s₁' => wpAny (model prog w) A (assign target env v) (fun _ s₂ =>
     wpAny (model prog w) A (forIn ifs true fun c r => if r = true then do let ok <- isTrue c env (eval c env); pure (ForInStep.yield ok) else pure (ForInStep.yield r)) (fun ok s₃ =>
      if ok = true then wpAny (model prog w) A (eval elt env) (fun x s₄ => wpAny (model prog w) A (call (.builtin "list.append") [acc, x]) (fun _ s₅ => ∃ m, m < n /\ J m s₅) E s₄) E s₃
      else ∃ m, m < n /\ J m s₃) E s₂) E s₁') E s₁) E s)
  (n : Nat) (h : J n s) : codeAny (model prog w) A (.compLoop (.ListComp elt [⟨target, iter, ifs, 0⟩] scope pos) 0 it acc env) R s := by
 refine codeAny_loop rfl J (fun n s hI => ?_) n h
 show wpAny _ A ((compTurn (.ListComp elt [⟨target, iter, ifs, 0⟩] scope pos) 0 it acc env).onRaise (fun x => do noteFrame x env; theTreesLotGoes x)) _ _ s
 refine wpAny_noted ?_
 rw [compTurn_list]
 refine wpAny_bind (wpAny_standAt (wpAny_bind (wpAny_mono (turn n s _ hI) (fun r s₁ h₁ => ?_) fun _ _ h' => h')))
 cases r with
 | none => exact wpAny_pure h₁
 | some v =>
  refine wpAny_bind (wpAny_mono h₁ (fun _ s₁' h₁' => ?_) fun _ _ h' => h')
  refine wpAny_bind (wpAny_mono h₁' (fun _ s₂ h₂ => wpAny_bind (wpAny_mono h₂ (fun ok s₃ h₃ => ?_) fun _ _ h' => h')) fun _ _ h' => h')
  cases ok with
  | false => exact wpAny_pure ⟨rfl, h₃⟩
  | true => exact wpAny_bind (wpAny_bind (wpAny_mono h₃ (fun x s₄ h₄ => wpAny_bind (wpAny_mono h₄ (fun _ s₅ h₅ => wpAny_pure (wpAny_pure ⟨rfl, h₅⟩)) fun _ _ h' => h')) fun _ _ h' => h'))
structure LC (X : Cxt) (h₀ : Heap) (It D C : Addr) : Prop where
 i0 : h₀.get? It = none
 d0 : h₀.get? D = none
 c0 : h₀.get? C = none
 ib : X.g₀.get? It = none
 db : X.g₀.get? D = none
 il : It ≠ X.G.lst
 dl : D ≠ X.G.lst
 id : It ≠ D
 ic : It ≠ C
 dc : D ≠ C
 d1 : D ≠ 1
structure LS (X : Cxt) (s₀ : Shared) (π₀ : Pi) (It D C : Addr) (l : List V) (ℓ : Option Nat) (s : Shared) (σ : St) (π : Pi) (i : Nat) (acc : List V) (m : Str -> Option Value) : Prop where
 J : Inv X.w.params X.G X.g₀ s.heap σ π
 S : Step s₀.heap π₀ s.heap π
 z : Same s₀ s
 it : IT X.G s.heap π It l ℓ i
 nit : It ∉ addrs π
 dl : ∃ xs mm, s.heap.get? D = some (lstO xs mm) /\ VRs X.G s.heap π acc xs
 nd : D ∉ addrs π
 own : Own X.G π X.g₀ s.heap C m
section
variable {X : Cxt} {s₀ s s' : Shared} {π₀ π π' : Pi} {It D C : Addr} {l acc : List V} {ℓ : Option Nat} {i : Nat} {m : Str -> Option Value} {σ σ' : St}
theorem LS.step (x : LS X s₀ π₀ It D C l ℓ s σ π i acc m) (J : Inv X.w.params X.G X.g₀ s'.heap σ' π') (S : Step s.heap π s'.heap π') (z : Same s s') : LS X s₀ π₀ It D C l ℓ s' σ' π' i acc m := by
 obtain ⟨xs, mm, hd, rd⟩ := x.dl
 obtain ⟨oi, hoi, _⟩ := x.it.alive
 exact ⟨J, x.S.trans S, x.z.trans z, x.it.step x.J S x.nit, S.apart hoi x.nit, ⟨xs, mm, S.keep _ _ hd x.nd, rd.step x.J S⟩, S.apart hd x.nd, x.own.step S⟩
theorem LS.moved (x : LS X s₀ π₀ It D C l ℓ s σ π i acc m) (c : LC X s₀.heap It D C) (z : Same s s') (sd : Side X.G π X.g₀ s.heap s'.heap It) (it : IT X.G s'.heap π It l ℓ (i + 1)) : LS X s₀ π₀ It D C l ℓ s' σ π (i + 1) acc m := by
 obtain ⟨xs, mm, hd, rd⟩ := x.dl
 exact ⟨x.J.side sd, x.S.side sd c.i0, x.z.trans z, it, x.nit, ⟨xs, mm, sd.other _ _ c.id.symm hd, rd.side sd⟩, x.nd, x.own.side sd c.ic.symm⟩
theorem LS.named (x : LS X s₀ π₀ It D C l ℓ s σ π i acc m) (c : LC X s₀.heap It D C) {m' : Str -> Option Value} (z : Same s s') (sd : Side X.G π X.g₀ s.heap s'.heap C) (own : Own X.G π X.g₀ s'.heap C m') : LS X s₀ π₀ It D C l ℓ s' σ π i acc m' := by
 obtain ⟨xs, mm, hd, rd⟩ := x.dl
 exact ⟨x.J.side sd, x.S.side sd c.c0, x.z.trans z, x.it.side sd c.ic, x.nit, ⟨xs, mm, sd.other _ _ c.dc hd, rd.side sd⟩, x.nd, own⟩
theorem LS.grown (x : LS X s₀ π₀ It D C l ℓ s σ π i acc m) (c : LC X s₀.heap It D C) {acc' : List V} (z : Same s s') (sd : Side X.G π X.g₀ s.heap s'.heap D) (dl : ∃ xs mm, s'.heap.get? D = some (lstO xs mm) /\ VRs X.G s'.heap π acc' xs) : LS X s₀ π₀ It D C l ℓ s' σ π i acc' m :=
 ⟨x.J.side sd, x.S.side sd c.d0, x.z.trans z, x.it.side sd c.id, x.nit, dl, x.nd, x.own.side sd c.dc.symm⟩
theorem LS.sideD (x : LS X s₀ π₀ It D C l ℓ s σ π i acc m) (c : LC X s₀.heap It D C) {h' : Heap} (h : ∀ b, b ≠ D -> h'.get? b = s.heap.get? b) : Side X.G π X.g₀ s.heap h' D := by
 obtain ⟨xs, mm, hd, rd⟩ := x.dl
 exact ⟨fun b o n e => (h b n).trans e, nt ⟨_, hd, not_named rfl (by decide) (by decide)⟩, x.nd, c.db, c.dl⟩
end
theorem VRs.up {G : Gl} {h : Heap} {π π' : Pi} (u : ∀ {v x}, VR G h π v x -> VR G h π' v x) {l : List V} {xs : List Value} (r : VRs G h π l xs) : VRs G h π' l xs := ⟨r.1, fun i v x e f => u (r.2 i v x e f)⟩
structure CompTxt (X : Cxt) (sc : Scope) (k : Nat) (cv : List String) (itr : PySem.Expr) : Prop where
 kind : sc.kind = .function
 tn : cv.length = tgN k
 nd : cv.Nodup
 cvl : ∀ x ∈ cv, sc.names.lookup (Str.ofString x) = some .local
 names : ∀ p ∈ sc.names, (p.2 = .local /\ sc.names.lookup p.1 = some .local) ∨ p.2 = .globalImplicit ∨ (p.2 = .free /\ X.env.scope.names.lookup p.1 = some .cell /\ ∃ x ∈ X.loc, Str.ofString x = p.1)
 locs : ∀ x ∈ X.loc, (relNames X.env.scope.names sc.names).lookup (Str.ofString x) ≠ some .local /\ (relNames X.env.scope.names sc.names).lookup (Str.ofString x) ≠ some .free /\
  ((relNames X.env.scope.names sc.names).lookup (Str.ofString x) = some .cell -> X.env.scope.names.lookup (Str.ofString x) = some .cell /\ sc.names.lookup (Str.ofString x) = some .free)
 lit : ∀ x, foldedSetIterable itr X.env x = pure x
noncomputable abbrev Cxt.sub (X : Cxt) (sc : Scope) (cl : List (Str × Addr)) (C : Addr) (cv : List String) (κ : List V) : Cxt := ⟨X.prog, X.w, X.K, X.G, X.g₀, X.n, X.F, compEnvC sc cl C X.env, X.loc, cv, κ⟩
theorem comp_sees {X : Cxt} {ρ : Fr} {sc : Scope} {k : Nat} {cv : List String} {itr : PySem.Expr} {cl : List (Str × Addr)} {C : Addr} {h : Heap} {π : Pi} {m : Str -> Option Value} {κ : List V} (T : CompTxt X sc k cv itr) (Z : Sees X h π ρ)
  (hcl : ∀ x c, cl.lookup x = some c -> X.env.cells.lookup x = some c) (hcs : ∀ p ∈ sc.names, p.2 = .free -> (cl.lookup p.1).isSome) (O : Own X.G π X.g₀ h C m)
  (hm : Nmd X.G h π cv κ cv.length m) : Sees (X.sub sc cl C cv κ) h π ρ := by
 have hk : ∀ x, (compEnvC sc cl C X.env).kindOf x = (relNames X.env.scope.names sc.names).lookup x := fun x => congrArg (List.lookup x) (relabel_names Z.kind)
 have look : ∀ (x : String), x ∈ X.loc -> (compEnvC sc cl C X.env).kindOf (Str.ofString x) = some .cell -> X.env.kindOf (Str.ofString x) = some .cell /\ ∃ c, cl.lookup (Str.ofString x) = some c /\ X.env.cells.lookup (Str.ofString x) = some c := fun x hx hc => by
  obtain ⟨h1, h2⟩ := (T.locs x hx).2.2 ((hk _).symm.trans hc)
  obtain ⟨c, hc⟩ := Option.isSome_iff_exists.mp (hcs _ (mem_of_lookup h2) rfl)
  exact ⟨h1, c, hc, hcl _ _ hc⟩
 refine ⟨T.kind, Z.glob, Z.blt, fun i x v hx hv => ?_, fun i x v hx hv hl => ?_, fun i x hx hl => ?_⟩
 ·obtain ⟨y, h1, h2⟩ := hm i x v (List.getElem?_eq_some_iff.mp hx).1 hx hv
  exact .loc (lookup_relabel_local (T.cvl x (List.mem_of_getElem? hx))) O.apart O.ns h1 h2
 ·have hx' := List.mem_of_getElem? hx
  have hl : (compEnvC sc cl C X.env).kindOf (Str.ofString x) = some .cell := (hl.resolve_left fun e => (T.locs x hx').1 ((hk _).symm.trans e)).resolve_right fun e => (T.locs x hx').2.1 ((hk _).symm.trans e)
  obtain ⟨h3, c, h1, h2⟩ := look x hx' hl
  cases Z.loc i x v hx hv (.inr (.inl h3)) with
  | loc k _ _ _ _ => rw [h3] at k; cases k
  | cell k l a n r => rw [h2] at l; cases l; exact .cell (.inl hl) h1 a n r
 ·exact (look x (List.mem_of_getElem? hx) hl).2.imp fun c h => h.1
noncomputable def CW (ρ : Fr) (k : Nat) (ℓ : Option Nat) (l : List V) (b : Bool) (wc we : List V -> Kt -> Kt) (xs acc : List V) (Q : List V -> St -> Prop) (σ : St) : Prop :=
 compW (fun σ' => live σ' l ℓ) (tgt k) (fun κ' Q' σ' => bif b then Q' (.bool true) σ' else wc κ' (kOne Q') ρ σ' []) (fun κ' Q' σ' => we κ' (kOne Q') ρ σ' []) xs acc Q σ
inductive CI (X : Cxt) (s : Shared) (π : Pi) (It D C : Addr) (l : List V) (ℓ : Option Nat) (R : List V -> List V -> St -> Prop) (nn : Nat) (s' : Shared) : Prop
 | mk {i : Nat} {σ' : St} {π' : Pi} {acc : List V} {m : Str -> Option Value} : nn + i = l.length + 1 -> i ≤ l.length -> acc.length ≤ i -> R (l.drop i) acc σ' -> LS X s π It D C l ℓ s' σ' π' i acc m -> CI X s π It D C l ℓ R nn s'
section
variable {X : Cxt} {A : Around} {E : Value -> Shared -> Prop} {s : Shared} {σ : St} {π : Pi} {ρ : Fr} {el tg itr c : PySem.Expr} {sc : Scope} {pos : Pos} {k : Nat} {cv : List String} {b : Bool} {we wc : List V -> Kt -> Kt} {Q : List V -> St -> Prop}
theorem drop_cons {l r : List V} {v : V} {i : Nat} (h : l.drop i = v :: r) : l[i]? = some v /\ r = l.drop (i + 1) /\ i < l.length := by
 have e : l[i]? = some v := by rw [<- List.head?_drop, h]; rfl
 exact ⟨e, by rw [<- List.drop_drop, h]; rfl, (List.getElem?_eq_some_iff.mp e).1⟩
theorem turn_lt {nn i n : Nat} (h : nn + i = n + 1) (g : i < n) : n - i < nn /\ n - i + (i + 1) = n + 1 := by omega
theorem comp_loop {R : Result -> Shared -> Prop} {It D' C : Addr} {l : List V} {ℓ : Option Nat} {cl : List (Str × Addr)} {sB : Shared} {kk : Nat} {ps : List PySem.Expr} {tp : Pos} (T : CompTxt X sc k cv itr)
  (hcl : ∀ x c, cl.lookup x = some c -> X.env.cells.lookup x = some c) (hcs : ∀ p ∈ sc.names, p.2 = .free -> (cl.lookup p.1).isSome)
  (he : ∀ κ, EvP (X.sub sc cl C cv κ) el (we κ)) (hc : b = false -> ∀ κ, TrP (X.sub sc cl C cv κ) c (wc κ))
  (H : Stand X A s σ π ρ) (hlim : l.length ≤ lim) (lc : LC X s.heap It D' C) {n0 : Nat} (h0 : CI X s π It D' C l ℓ (fun xs acc σ => CW ρ k ℓ l b wc we xs acc Q σ) n0 sB)
  (fin : ∀ vs σ' s' π' m, Q vs σ' -> Inv X.w.params X.G X.g₀ s'.heap (σ' ++ [.list vs]) π' -> Step s.heap π s'.heap π' -> Same s s' -> VR X.G s'.heap π' (.loc σ'.length) (.ref D') -> Own X.G π' X.g₀ s'.heap C m -> R (.ok .next) s') :
  codeAny (model X.prog X.w) A (.compLoop (.ListComp el [⟨mkTg k cv ps kk tp, itr, bif b then [] else [c], 0⟩] sc pos) 0 (.ref It) (.ref D') (compEnvC sc cl C X.env)) R sB := by
 refine compLoop_go (CI X s π It D' C l ℓ fun xs acc σ => CW ρ k ℓ l b wc we xs acc Q σ) ?_ n0 h0
 intro nn s' E J
 induction J with
 | @mk i σ' π' acc m hnn hil hal hcw L =>
 have O : ItOK X.G X.g₀ π' It := ⟨L.nit, lc.ib, lc.il⟩
 cases hdr : l.drop i with
 | nil =>
  rw [hdr] at hcw
  obtain ⟨hlv, hq⟩ := hcw
  have hi' : i = l.length := Nat.le_antisymm hil (List.drop_eq_nil_iff.mp hdr)
  refine next_end H.d.h L.it hi' hlv L.J O fun h' tk sd => ?_
  obtain ⟨xs, mm, hd, rd⟩ := L.dl
  have hd' := sd.other _ _ lc.id.symm hd
  obtain ⟨J3, S3⟩ := (L.J.side sd).adopt (o := .list acc) L.nd ⟨lc.db, lc.d1⟩ lc.dl hd' ⟨show Value.type "list" ≠ _ by decide, show Value.type "list" ≠ _ by decide⟩ lc.d0 (L.S.side sd lc.i0) (fun up => .list (Nat.le_trans (Nat.le_trans hal hil) hlim) hd' (VRs.up up (rd.side sd)))
  have O' := L.own.side sd lc.ic.symm
  refine fin _ _ { s' with heap := h', toks := tk } _ m hq J3 S3 ⟨L.z.1, L.z.2⟩ (.loc (a := D') (d := none) (L.J.len ▸ List.getElem?_concat_length)) ⟨O'.ns, fun q => ?_, O'.base, O'.lst⟩
  rw [addrs_append] at q
  exact (List.mem_append.mp q).elim O'.apart fun q => lc.dc (List.mem_singleton.mp q).symm
 | cons v r =>
  rw [hdr] at hcw
  obtain ⟨hlv, κ, hκ, hcw⟩ := hcw
  obtain ⟨hvi, hr, hlt⟩ := drop_cons hdr
  refine next_item L.it hvi hlv L.J O fun y h' tk ry sd it' => ?_
  have L1 := L.moved (s' := { s' with heap := h', toks := tk }) lc ⟨rfl, rfl⟩ sd it'
  have stp : ∀ (s3 s5 : Shared) (σ3 : St) (π3 : Pi) (acc' : List V) (m' : Str -> Option Value), acc'.length ≤ i + 1 -> CW ρ k ℓ l b wc we r acc' Q σ3 -> LS X s π It D' C l ℓ s5 σ3 π3 (i + 1) acc' m' -> ∃ mm, mm < nn /\ CI X s π It D' C l ℓ (fun xs acc σ => CW ρ k ℓ l b wc we xs acc Q σ) mm s5 :=
   fun s3 s5 σ3 π3 acc' m' ha q L => ⟨l.length - i, (turn_lt hnn hlt).1, .mk (turn_lt hnn hlt).2 hlt ha (hr ▸ q) L⟩
  have tgk := fun Q => storeTgt (es := ps) (kk := kk) (pos := tp) (prog := X.prog) (w := X.w) (E := E) (Q := Q) (env := compEnvC sc cl C X.env) H.d.h L1.J T.kind T.tn T.nd hκ (fun x hx => lookup_relabel_local (T.cvl x hx)) L1.own (ry.side sd)
  refine letOwned it' (tgk (fun _ _ => True) fun _ _ _ _ _ _ => trivial).2 ((tgk _ fun s2 m' z2 sd2 O2 hm => ?_).1)
  have L2 := L1.named lc z2 sd2 O2
  have H2 : ∀ {s3 σ3 π3}, Inv X.w.params X.G X.g₀ s3.heap σ3 π3 -> Step s2.heap π' s3.heap π3 -> Stand (X.sub sc cl C cv κ) A s3 σ3 π3 ρ := fun I3 S3 => ⟨H.d, I3, Sees.step (X := X.sub sc cl C cv κ) (comp_sees T (H.x.step H.i L2.S) hcl hcs O2 hm) L2.J S3⟩
  have item : ∀ s3 σ3 π3, LS X s π It D' C l ℓ s3 σ3 π3 (i + 1) acc m' -> Step s2.heap π' s3.heap π3 -> we κ (kOne fun v σ2 => CW ρ k ℓ l b wc we r (acc ++ [v]) Q σ2) ρ σ3 [] ->
    wpAny (model X.prog X.w) A (eval el (compEnvC sc cl C X.env)) (fun x s₄ => wpAny (model X.prog X.w) A (call (.builtin "list.append") [.ref D', x]) (fun _ s₅ => ∃ mm, mm < nn /\ CI X s π It D' C l ℓ (fun xs acc σ => CW ρ k ℓ l b wc we xs acc Q σ) mm s₅) E s₄) E s3 := by
   intro s3 σ3 π3 L3 S3 q3
   refine he κ A _ s3 σ3 π3 ρ [] _ _ (H2 L3.J S3) q3 fun u σ4 s4 π4 yu q4 J4 S4 z4 ru => ?_
   have L4 := L3.step J4 S4 z4
   obtain ⟨xs, mm, hd, rd⟩ := L4.dl
   refine list_appendOK hd (by rw [<- rd.length]; exact Nat.lt_of_le_of_lt hal (Nat.lt_of_lt_of_le hlt hlim)) fun h5 m5 ho h5d => ?_
   have sd5 := L4.sideD lc ho
   exact stp s4 _ σ4 π4 _ m' (by rw [List.length_append]; exact Nat.succ_le_succ hal) q4 (L4.grown (s' := { s4 with heap := h5 }) lc ⟨rfl, rfl⟩ sd5 ⟨_, _, h5d, (rd.side sd5).snoc (ru.side sd5)⟩)
  cases b with
  | true =>
   refine wpAny_tests_nil ?_
   obtain ⟨t, ht, hcw⟩ := (show IfW _ _ [] σ' [.bool true] from hcw).out
   cases ht
   exact item s2 σ' π' L2 (Step.refl _ _) hcw
  | false =>
   refine wpAny_tests_one ?_
   refine hc rfl κ A _ s2 σ' π' ρ [] _ (fun t σ1 => (bif t then (fun _ σ1 _ => we κ (kOne fun v σ2 => CW ρ k ℓ l false wc we r (acc ++ [v]) Q σ2) ρ σ1 []) else fun _ σ1 _ => CW ρ k ℓ l false wc we r acc Q σ1 : Kt) [] σ1 []) _ (H2 L2.J (Step.refl _ _)) hcw (fun v σ1 q1 => IfW.out q1) fun t σ3 s3 π3 q3 J3 S3 z3 => ?_
   have L3 := L2.step J3 S3 z3
   cases t with
   | true => exact item s3 σ3 π3 L3 S3 q3
   | false => exact stp s3 s3 σ3 π3 acc m' (Nat.le_succ_of_le hal) q3 L3
end
section
variable {X : Cxt} {A : Around} {E : Value -> Shared -> Prop} {s : Shared} {σ : St} {π : Pi} {ρ : Fr} {el itr c : PySem.Expr} {sc : Scope} {pos p2 tp : Pos} {k kk : Nat} {cv : List String} {b : Bool} {we wc : List V -> Kt -> Kt} {wi : Kt -> Kt} {us : List V} {ps : List PySem.Expr}
abbrev kComp (k : Nat) (b : Bool) (wc we : List V -> Kt -> Kt) (K : Kt) : Kt := fun ρ => CompW (tgt k) (fun κ' Q' σ' => bif b then Q' (.bool true) σ' else wc κ' (kOne Q') ρ σ' []) (fun κ' Q' σ' => we κ' (kOne Q') ρ σ' []) K ρ
theorem Step.older {h h' : Heap} {π' : Pi} (S : Step h π h' π') {a : Addr} (e : h'.get? a = none) : h.get? a = none := by
 cases z : h.get? a with
 | none => rfl
 | some o => obtain ⟨o', e', _⟩ := S.cls a o z; rw [e'] at e; cases e
theorem comp_core (Y : FactsE X) {K : Kt} {Qc : Value -> Shared -> Prop} {use : Option (Value -> Sem Unit)} (T : CompTxt X sc k cv itr) (hi : EvP X itr wi)
  (he : ∀ cl C κ, EvP (X.sub sc cl C cv κ) el (we κ)) (hc : b = false -> ∀ cl C κ, TrP (X.sub sc cl C cv κ) c (wc κ))
  (H : Stand X A s σ π ρ) (q : wi (kComp k b wc we K) ρ σ us)
  (fin : ∀ v σ' s' π' x C m, K ρ σ' (v :: us) -> Inv X.w.params X.G X.g₀ s'.heap σ' π' -> Step s.heap π s'.heap π' -> Same s s' -> VR X.G s'.heap π' v x -> Own X.G π' X.g₀ s'.heap C m -> s.heap.get? C = none -> compPost (model X.prog X.w) A E use Qc x C (.ok .next) s') :
  wpAny (model X.prog X.w) A (comprehension (.ListComp el [⟨mkTg k cv ps kk tp, itr, bif b then [] else [c], 0⟩] sc pos) sc X.env p2 (newList []) false (eval itr X.env) use) Qc E s := by
 obtain ⟨cl, hclos, hcl, hcs⟩ := closure_ok (sc := sc) (env := X.env) fun p hp hf => by
  rcases T.names p hp with h | h | ⟨_, h2, x, hx, hxe⟩
  ·rw [h.1] at hf; cases hf
  ·rw [h] at hf; cases hf
  ·obtain ⟨i, hi⟩ := List.mem_iff_getElem?.mp hx
   obtain ⟨c, hc⟩ := H.x.clos i x hi (by rw [hxe]; exact h2)
   exact ⟨c, by rw [<- hxe]; exact hc⟩
 have nol : ∀ p ∈ sc.names, p.2 = .local -> sc.names.lookup p.1 = some .local := fun p hp hl => by
  rcases T.names p hp with h | h | ⟨h, _⟩
  ·exact h.2
  ·rw [h] at hl; cases hl
  ·rw [h] at hl; cases hl
 have noc : ∀ p ∈ sc.names, p.2 ≠ .cell := fun p hp hl => by
  rcases T.names p hp with h | h | ⟨h, _⟩
  ·rw [h.1] at hl; cases hl
  ·rw [h] at hl; cases hl
  ·rw [h] at hl; cases hl
 refine wpAny_comprehension_free (g := ⟨mkTg k cv ps kk tp, itr, bif b then [] else [c], 0⟩) (gs := []) rfl T.lit hclos T.kind nol ?_
 refine hi A E s σ π ρ us _ _ H q fun v σ1 s1 π1 x q1 I1 S1 z1 rx => ?_
 cases q1 with
 | @mk _ l _ ℓ hsrc hlim hw =>
 have hlim := Nat.le_of_ble_eq_true hlim
 refine iter_new hsrc I1 rx fun o S2 I2 it2 => wpAny_newObj_type (wpAny_newFunctionEnv noc nofun (fun h4 hn4 hs4 => ?_) T.kind)
 dsimp only at hn4 hs4 ⊢
 have hD2 : (s1.heap.push o).objs.size = s1.heap.objs.size + 1 := Heap.size_push _ _
 have hC3 : ((s1.heap.push o).push { cls := .type "list", dict := none, data := .seq ([] : List Value).toArray }).objs.size = s1.heap.objs.size + 1 + 1 := by rw [Heap.size_push, Heap.size_push]
 rw [hC3] at hn4 hs4
 rw [hD2, hC3]
 have k34 : ∀ b o', ((s1.heap.push o).push { cls := .type "list", dict := none, data := .seq ([] : List Value).toArray }).get? b = some o' -> h4.get? b = some o' := fun b o' e => (hs4.2 b (Nat.ne_of_lt (Nat.lt_of_lt_of_eq (Heap.lt_size e) hC3))).trans (Heap.get?_push_of_some _ e)
 have gD : h4.get? (s1.heap.objs.size + 1) = some (lstO [] 0) := k34 _ _ (by rw [<- hD2]; exact Heap.get?_push_size _ rfl)
 obtain ⟨I4, S4⟩ := I2.ext (h' := h4) fun b o e => k34 b o (Heap.get?_push_of_some _ e)
 have big : ∀ a, s1.heap.objs.size ≤ a -> s1.heap.get? a = none /\ s.heap.get? a = none /\ X.g₀.get? a = none /\ a ≠ X.G.lst /\ a ∉ addrs π1 := fun a ha => by
  have e := (I1.none_size' ha).1
  have b := I1.none_base e
  exact ⟨e, S1.older e, b, (fun z => by obtain ⟨o, y⟩ := Y.tb.lst; rw [z, y] at b; cases b), I1.none_addr e⟩
 have b0 := big s1.heap.objs.size (Nat.le_refl _)
 have b1 := big (s1.heap.objs.size + 1) (Nat.le_succ _)
 have b2 := big (s1.heap.objs.size + 1 + 1) (Nat.le_succ_of_le (Nat.le_succ _))
 have lc : LC X s.heap s1.heap.objs.size (s1.heap.objs.size + 1) (s1.heap.objs.size + 1 + 1) :=
  ⟨b0.2.1, b1.2.1, b2.2.1, b0.2.2.1, b1.2.2.1, b0.2.2.2.1, b1.2.2.2.1, Nat.ne_of_lt (Nat.lt_succ_self _), Nat.ne_of_lt (Nat.lt_succ_of_lt (Nat.lt_succ_self _)), Nat.ne_of_lt (Nat.lt_succ_self _), (I1.none_size' (Nat.le_succ _)).2⟩
 have L0 : LS X s π s1.heap.objs.size (s1.heap.objs.size + 1) (s1.heap.objs.size + 1 + 1) l ℓ { s1 with heap := h4, toks := s1.toks + ([] : List (Str × Value)).length } σ1 π1 0 [] (fun x => ([] : List (Str × Value)).reverse.lookup x) :=
  ⟨I4, (S1.trans S2).trans S4, z1, it2.step I2 S4 b0.2.2.2.2, b0.2.2.2.2, ⟨[], 0, gD, .nil⟩, b1.2.2.2.2, ⟨hn4, b2.2.2.2.2, b2.2.2.1, b2.2.2.2.1⟩⟩
 have turns := comp_loop (pos := pos) (R := compPost (model X.prog X.w) A E use Qc (.ref (s1.heap.objs.size + 1)) (s1.heap.objs.size + 1 + 1)) (ps := ps) (kk := kk) (tp := tp) (ℓ := ℓ) (Q := fun ws σ' => K ρ (σ' ++ [Mine.O.list ws]) (.loc σ'.length :: us)) T hcl hcs (he cl _) (fun e => hc e cl _) H hlim lc (n0 := l.length + 1) (.mk (i := 0) (acc := []) rfl (Nat.zero_le _) (Nat.le_refl _) hw L0)
  fun ws σ' s' π' m hq J S z rv O => fin _ _ s' π' _ _ m hq J S z rv O b2.2.1
 exact codeAny_compStart_list turns (iter_self L0.it turns)
theorem ev_comp (Y : FactsE X) (T : CompTxt X sc k cv itr) (hi : EvP X itr wi) (he : ∀ cl C κ, EvP (X.sub sc cl C cv κ) el (we κ)) (hc : b = false -> ∀ cl C κ, TrP (X.sub sc cl C cv κ) c (wc κ)) :
  EvP X (.ListComp el [⟨mkTg k cv ps kk tp, itr, bif b then [] else [c], 0⟩] sc pos) fun K => wi (kComp k b wc we K) := by
 intro A E s σ π ρ us K Qc H q kk
 refine comp_core Y T hi he hc H q fun v σ' s' π' x C m q' I' S' z' r' O nC => ⟨m, O.ns, fun h' hs => ?_⟩
 have sd := O.turn hs
 exact kk v σ' { s' with heap := h' } π' x q' (I'.side sd) (S'.side sd nC) ⟨z'.1, z'.2⟩ (r'.side sd)
end
abbrev Pt := List PySem.Expr × List (Option PySem.Expr) × Nat × Scope × List Comprehension
noncomputable def ptK (l : List PySem.Expr) : Pt := (l, [], 0, default, [])
noncomputable def inter (ks : List (Option PySem.Expr)) (vs : List PySem.Expr) : List PySem.Expr := (ks.zip vs).flatMap fun p => [p.1.getD p.2, p.2]
noncomputable def pt (e : PySem.Expr) : Pt := PySem.Expr.casesOn (motive_1 := fun _ => Pt) e
 (fun _ l _ => ptK l) (fun _ _ _ => ptK []) (fun a _ b _ => ptK [a, b]) (fun _ a _ => ptK [a]) (fun _ _ _ _ => ptK []) (fun a b c _ => ptK [a, b, c]) (fun ks vs _ => ptK (inter ks vs)) (fun _ _ _ => ptK [])
 (fun a g s _ => ([a], [], 0, s, g)) (fun _ _ _ _ => ptK []) (fun _ _ _ _ _ => ptK []) (fun _ _ _ _ => ptK []) (fun _ _ => ptK []) (fun _ _ => ptK []) (fun _ _ => ptK []) (fun a _ l _ => ptK (a :: l)) (fun a l _ _ => ptK (a :: l)) (fun _ _ _ _ => ptK []) (fun _ _ => ptK [])
 (fun _ k _ => ([], [], k, default, [])) (fun a _ _ => ptK [a]) (fun a b _ => ptK [a, b]) (fun _ _ => ptK []) (fun _ _ => ptK []) (fun l _ => ptK l) (fun l k _ => (l, [], k, default, [])) (fun a b c _ => ([], [a, b, c], 0, default, []))
noncomputable def kid (e : PySem.Expr) (i : Nat) : PySem.Expr := (pt e).1.getD i e
noncomputable def okid (e : PySem.Expr) (i : Nat) : PySem.Expr := ((pt e).2.1.getD i none).getD e
noncomputable def cst (v : V) : Const := V.casesOn v .none .bool .int (fun s => .str (Str.ofString s)) (fun _ => .none) (fun _ => .none) (fun _ => .none) (fun _ => .none) (fun _ => .none) (fun _ => .none) (fun _ _ => .none) (fun _ => .none)
noncomputable def isC (v : V) : Bool := V.casesOn v true (fun _ => true) (fun _ => true) (fun _ => true) (fun _ => false) (fun _ => false) (fun _ => false) (fun _ => false) (fun _ => false) (fun _ => false) (fun _ _ => false) (fun _ => false)
abbrev Mk := List String -> (PySem.Expr -> PySem.Expr) × (List PySem.Expr -> List PySem.Expr)
noncomputable def onE (f : PySem.Expr -> PySem.Expr) : (PySem.Expr -> PySem.Expr) × (List PySem.Expr -> List PySem.Expr) := (f, fun _ => [])
noncomputable def sub (a b e : PySem.Expr) : PySem.Expr := .Subscript a b e.pos
noncomputable def cg (e : PySem.Expr) : Comprehension := (pt e).2.2.2.2.headD ⟨e, e, [], 0⟩
noncomputable def mk (loc : List String) (e : E) : Mk := E.rec (motive := fun _ => Mk)
 (fun v _ => onE fun e => .Constant (cst v) (pt e).2.2.1 e.pos)
 (fun i _ => onE fun e => .Name (Str.ofString (loc.getD i "")) e.pos)
 (fun i c => onE fun e => .Name (Str.ofString (c.getD i "")) e.pos)
 (fun _ x _ => onE fun e => .Name (Str.ofString x) e.pos)
 (fun op _ _ a b c => onE fun e => .BinOp ((a c).1 (kid e 0)) op ((b c).1 (kid e 1)) e.pos)
 (fun _ a c => onE fun e => .UnaryOp .Not ((a c).1 (kid e 0)) e.pos)
 (fun _ a c => onE fun e => .UnaryOp .USub ((a c).1 (kid e 0)) e.pos)
 (fun t _ l c => onE fun e => .BoolOp (bop t) ((l c).2 (pt e).1) e.pos)
 (fun op _ _ a b c => onE fun e => .Compare ((a c).1 (kid e 0)) [op] [(b c).1 (kid e 1)] e.pos)
 (fun _ _ _ t a b c => onE fun e => .IfExp ((t c).1 (kid e 0)) ((a c).1 (kid e 1)) ((b c).1 (kid e 2)) e.pos)
 (fun _ l c => onE fun e => .Tuple ((l c).2 (pt e).1) (pt e).2.2.1 e.pos)
 (fun _ l c => onE fun e => .List ((l c).2 (pt e).1) e.pos)
 (fun _ l c => onE fun e => .Dict (evs ((l c).2 (pt e).1)) (ods ((l c).2 (pt e).1)) e.pos)
 (fun _ _ a b c => onE fun e => sub ((a c).1 (kid e 0)) ((b c).1 (kid e 1)) e)
 (fun _ _ a b c => onE fun e => sub ((a c).1 (kid e 0)) (.Slice none (some ((b c).1 (okid (kid e 1) 1))) none (kid e 1).pos) e)
 (fun _ _ a b c => onE fun e => sub ((a c).1 (kid e 0)) (.Slice (some ((b c).1 (okid (kid e 1) 0))) none none (kid e 1).pos) e)
 (fun _ a c => onE fun e => sub ((a c).1 (kid e 0)) (.Slice none none none (kid e 1).pos) e)
 (fun _ a c => onE fun e => sub ((a c).1 (kid e 0)) (.Slice none none (some (.UnaryOp .USub (.Constant (.int 1) (pt (kid (okid (kid e 1) 2) 0)).2.2.1 (kid (okid (kid e 1) 2) 0).pos) (okid (kid e 1) 2).pos)) (kid e 1).pos) e)
 (fun _ n a c => onE fun e => .Attribute ((a c).1 (kid e 0)) (Str.ofString n.nm) e.pos)
 (fun _ _ f l c => onE fun e => .Call ((f c).1 (kid e 0)) ((l c).2 (pt e).1.tail) [] e.pos)
 (fun _ m _ o l c => onE fun e => .Call (.Attribute ((o c).1 (kid (kid e 0) 0)) (Str.ofString m.nm) (kid e 0).pos) ((l c).2 (pt e).1.tail) [] e.pos)
 (fun _ _ cond k cv el it cn c => onE fun e => .ListComp ((el cv).1 (kid e 0)) [⟨mkTg k cv (pt (cg e).target).1 (pt (cg e).target).2.2.1 (cg e).target.pos, (it c).1 (cg e).iter, bif isNilE cond then [] else [(cn cv).1 ((cg e).ifs.headD e)], 0⟩] (pt e).2.2.2.1 e.pos)
 (fun _ => onE fun e => .Name (Str.ofString "") e.pos)
 (fun _ _ a b c => (fun e => .Name (Str.ofString "") e.pos, fun es => (a c).1 (es.headD default) :: (b c).2 es.tail))
 e
abbrev Nm := List (Str × NameKind)
abbrev Ck := Nm -> List String -> (PySem.Expr -> Bool) × (List PySem.Expr -> Bool)
noncomputable def onB (f : PySem.Expr -> Bool) : (PySem.Expr -> Bool) × (List PySem.Expr -> Bool) := (f, fun _ => false)
noncomputable def kin (nm : Nm) (x : String) : Bool := nm.lookup (Str.ofString x) == some .local || (nm.lookup (Str.ofString x) == some .cell || nm.lookup (Str.ofString x) == some .free)
noncomputable def gcd (v : V) : Nat × Int := V.casesOn v (9, 0) (fun _ => (9, 0)) (fun i => (0, i)) (fun _ => (9, 0)) (fun _ => (9, 0)) (fun _ => (9, 0)) (fun f => (1, f)) (fun f => (2, f)) (fun f => (3, f)) (fun f => (4, f)) (fun _ _ => (9, 0)) (fun _ => (9, 0))
noncomputable def okG (v : V) (x : String) : Bool := (globs.lookup x).any fun u => Nat.blt (gcd v).1 9 && (Nat.beq (gcd u).1 (gcd v).1 && decide ((gcd u).2 = (gcd v).2))
noncomputable def lenE (e : E) : Nat := E.rec (motive := fun _ => Nat) (fun _ => 0) (fun _ => 0) (fun _ => 0) (fun _ _ => 0) (fun _ _ _ _ _ => 0) (fun _ _ => 0) (fun _ _ => 0) (fun _ _ _ => 0) (fun _ _ _ _ _ => 0) (fun _ _ _ _ _ _ => 0) (fun _ _ => 0) (fun _ _ => 0) (fun _ _ => 0) (fun _ _ _ _ => 0) (fun _ _ _ _ => 0) (fun _ _ _ _ => 0) (fun _ _ => 0) (fun _ _ => 0) (fun _ _ _ => 0) (fun _ _ _ _ => 0) (fun _ _ _ _ _ => 0) (fun _ _ _ _ _ _ _ _ => 0) 0 (fun _ _ _ n => n + 1) e
noncomputable def evn (e : E) : Bool × Bool := E.rec (motive := fun _ => Bool × Bool) (fun _ => (false, false)) (fun _ => (false, false)) (fun _ => (false, false)) (fun _ _ => (false, false)) (fun _ _ _ _ _ => (false, false)) (fun _ _ => (false, false)) (fun _ _ => (false, false)) (fun _ _ _ => (false, false)) (fun _ _ _ _ _ => (false, false)) (fun _ _ _ _ _ _ => (false, false)) (fun _ _ => (false, false)) (fun _ _ => (false, false)) (fun _ _ => (false, false)) (fun _ _ _ _ => (false, false)) (fun _ _ _ _ => (false, false)) (fun _ _ _ _ => (false, false)) (fun _ _ => (false, false)) (fun _ _ => (false, false)) (fun _ _ _ => (false, false)) (fun _ _ _ _ => (false, false)) (fun _ _ _ _ _ => (false, false)) (fun _ _ _ _ _ _ _ _ => (false, false)) (true, false) (fun _ _ _ n => (n.2, n.1)) e
noncomputable def form (e : E) : Nat := E.casesOn e (fun _ => 0) (fun _ => 0) (fun _ => 0) (fun v _ => bif callable v then 2 else 0) (fun _ _ _ => 0) (fun _ => 0) (fun _ => 0) (fun _ _ => 0) (fun _ _ _ => 0) (fun _ _ _ => 0) (fun _ => 4) (fun _ => 4) (fun _ => 0) (fun _ _ => 0) (fun _ _ => 0) (fun _ _ => 0) (fun _ => 0) (fun _ => 0) (fun _ _ => 0) (fun _ _ => 1) (fun _ _ _ => 1) (fun _ _ _ _ _ => 3) 0 (fun _ _ => 0)
noncomputable def okSc (loc : List String) (nm : Nm) (sc : Scope) (k : Nat) (cv : List String) : Bool :=
 (sc.kind == .function) && (Nat.beq cv.length (tgN k) && (decide cv.Nodup && (cv.all (fun x => sc.names.lookup (Str.ofString x) == some .local) &&
  (sc.names.all (fun p => (p.2 == .local && sc.names.lookup p.1 == some .local) || (p.2 == .globalImplicit || (p.2 == .free && (nm.lookup p.1 == some .cell && loc.any fun x => Str.ofString x == p.1)))) &&
  loc.all fun x => (relNames nm sc.names).lookup (Str.ofString x) != some .local && ((relNames nm sc.names).lookup (Str.ofString x) != some .free && ((relNames nm sc.names).lookup (Str.ofString x) != some .cell || (nm.lookup (Str.ofString x) == some .cell && sc.names.lookup (Str.ofString x) == some .free)))))))
noncomputable def ok (loc : List String) (e : E) : Ck := E.rec (motive := fun _ => Ck)
 (fun v _ _ => onB fun _ => isC v)
 (fun i nm _ => onB fun _ => Nat.blt i loc.length && (!dbg (loc.getD i "") && kin nm (loc.getD i "")))
 (fun i nm c => onB fun _ => Nat.blt i c.length && !dbg (c.getD i ""))
 (fun v x nm _ => onB fun _ => !dbg x && (nm.lookup (Str.ofString x) == some .globalImplicit && okG v x))
 (fun _ _ _ a b nm c => onB fun e => (a nm c).1 (kid e 0) && (b nm c).1 (kid e 1))
 (fun _ a nm c => onB fun e => (a nm c).1 (kid e 0))
 (fun _ a nm c => onB fun e => (a nm c).1 (kid e 0))
 (fun _ l' l nm c => onB fun e => !isNilE l' && (l nm c).2 (pt e).1)
 (fun _ _ _ a b nm c => onB fun e => (a nm c).1 (kid e 0) && (b nm c).1 (kid e 1))
 (fun _ _ _ t a b nm c => onB fun e => (t nm c).1 (kid e 0) && ((a nm c).1 (kid e 1) && (b nm c).1 (kid e 2)))
 (fun l' l nm c => onB fun e => Nat.ble (lenE l') 25 && (l nm c).2 (pt e).1)
 (fun l' l nm c => onB fun e => Nat.ble (lenE l') 25 && (l nm c).2 (pt e).1)
 (fun l' l nm c => onB fun e => (Nat.ble (lenE l') 25 && (evn l').1) && (l nm c).2 (pt e).1)
 (fun _ _ a b nm c => onB fun e => (a nm c).1 (kid e 0) && (b nm c).1 (kid e 1))
 (fun _ _ a b nm c => onB fun e => (a nm c).1 (kid e 0) && (b nm c).1 (okid (kid e 1) 1))
 (fun _ _ a b nm c => onB fun e => (a nm c).1 (kid e 0) && (b nm c).1 (okid (kid e 1) 0))
 (fun _ a nm c => onB fun e => (a nm c).1 (kid e 0))
 (fun _ a nm c => onB fun e => (a nm c).1 (kid e 0))
 (fun a' n a nm c => onB fun e => (Nat.blt n nAt && !Nat.beq (form a') 1) && (a nm c).1 (kid e 0))
 (fun f' _ f l nm c => onB fun e => Nat.beq (form f') 2 && ((f nm c).1 (kid e 0) && (l nm c).2 (pt e).1.tail))
 (fun o' _ l' o l nm c => onB fun e => ((kid e 0).pos.endLine == e.pos.line && (!Nat.beq (form o') 1 && Nat.ble (lenE l') 25)) && ((o nm c).1 (kid (kid e 0) 0) && (l nm c).2 (pt e).1.tail))
 (fun _ _ cond k cv el it cn nm c => onB fun e => okSc loc nm (pt e).2.2.2.1 k cv && ((it nm c).1 (cg e).iter && ((el (relNames nm (pt e).2.2.2.1.names) cv).1 (kid e 0) && (isNilE cond || (cn (relNames nm (pt e).2.2.2.1.names) cv).1 ((cg e).ifs.headD e)))))
 (fun _ _ => (fun _ => false, fun _ => true))
 (fun _ _ a b nm c => (fun _ => false, fun es => (a nm c).1 (es.headD default) && (b nm c).2 es.tail))
 e
noncomputable abbrev mkE (X : Cxt) (e : E) (ee : PySem.Expr) : PySem.Expr := (mk X.loc e X.cmp).1 ee
noncomputable abbrev mkL (X : Cxt) (e : E) (es : List PySem.Expr) : List PySem.Expr := (mk X.loc e X.cmp).2 es
abbrev okE (X : Cxt) (e : E) (ee : PySem.Expr) : Prop := (ok X.loc e X.env.scope.names X.cmp).1 ee = true
abbrev okL (X : Cxt) (e : E) (es : List PySem.Expr) : Prop := (ok X.loc e X.env.scope.names X.cmp).2 es = true
structure Fx (env : Env) (f : Nat) (m : PySem.Expr) : Prop where
 st : ∀ r, starEach (m :: r) env = (false, eval m env) :: starEach r env
 su : ∀ o v, subscripted m false o v = operate [o, v] (getItem o v)
 bm : ∀ op, behindInMarks op m = false
 fo : ∀ x, foldedSetIterable m env x = pure x
 ab : f ≠ 1 -> ∀ t w, attributeBase m t env w = w
 sw : f ≠ 3 -> ∀ t l, swapsWith m t l env = pure false
 ns : f ≠ 4 -> ∀ ts k p, swappedStores [.Tuple ts k p] m env = pure none
section
variable {env : Env} {f k : Nat} {p : Pos} {a b c : PySem.Expr} {l : List PySem.Expr}
theorem fx_const {c : Const} : Fx env f (.Constant c k p) := ⟨fun _ => rfl, fun _ _ => rfl, fun _ => rfl, fun _ => rfl, fun _ _ _ => rfl, fun _ _ _ => rfl, fun _ _ _ _ => rfl⟩
theorem fx_name {x : Str} : Fx env f (.Name x p) := ⟨fun _ => rfl, fun _ _ => rfl, fun _ => rfl, fun _ => rfl, fun _ _ _ => rfl, fun _ _ _ => rfl, fun _ _ _ _ => rfl⟩
theorem fx_bin {o : Operator} : Fx env f (.BinOp a o b p) := ⟨fun _ => rfl, fun _ _ => rfl, fun _ => rfl, fun _ => rfl, fun _ _ _ => rfl, fun _ _ _ => rfl, fun _ _ _ _ => rfl⟩
theorem fx_un {o : UnaryOp} : Fx env f (.UnaryOp o a p) := ⟨fun _ => rfl, fun _ _ => rfl, fun _ => rfl, fun _ => rfl, fun _ _ _ => rfl, fun _ _ _ => rfl, fun _ _ _ _ => rfl⟩
theorem fx_boo {o : BoolOp} : Fx env f (.BoolOp o l p) := ⟨fun _ => rfl, fun _ _ => rfl, fun _ => rfl, fun _ => rfl, fun _ _ _ => rfl, fun _ _ _ => rfl, fun _ _ _ _ => rfl⟩
theorem fx_cmp {o : List CmpOp} : Fx env f (.Compare a o l p) := ⟨fun _ => rfl, fun _ _ => rfl, fun _ => rfl, fun _ => rfl, fun _ _ _ => rfl, fun _ _ _ => rfl, fun _ _ _ _ => rfl⟩
theorem fx_ife : Fx env f (.IfExp a b c p) := ⟨fun _ => rfl, fun _ _ => rfl, fun _ => rfl, fun _ => rfl, fun _ _ _ => rfl, fun _ _ _ => rfl, fun _ _ _ _ => rfl⟩
theorem fx_tup : Fx env 4 (.Tuple l k p) := ⟨fun _ => rfl, fun _ _ => rfl, fun _ => rfl, fun _ => rfl, fun _ _ _ => rfl, fun _ _ _ => rfl, fun h => (h rfl).elim⟩
theorem fx_list : Fx env 4 (.List l p) := ⟨fun _ => rfl, fun _ _ => rfl, fun _ => rfl, fun _ => rfl, fun _ _ _ => rfl, fun _ _ _ => rfl, fun h => (h rfl).elim⟩
theorem fx_dict {o : List (Option PySem.Expr)} : Fx env f (.Dict o l p) := ⟨fun _ => rfl, fun _ _ => rfl, fun _ => rfl, fun _ => rfl, fun _ _ _ => rfl, fun _ _ _ => rfl, fun _ _ _ _ => rfl⟩
theorem fx_sub : Fx env f (.Subscript a b p) := ⟨fun _ => rfl, fun _ _ => rfl, fun _ => rfl, fun _ => rfl, fun _ _ _ => rfl, fun _ _ _ => rfl, fun _ _ _ _ => rfl⟩
theorem fx_attr {x : Str} : Fx env f (.Attribute a x p) := ⟨fun _ => rfl, fun _ _ => rfl, fun _ => rfl, fun _ => rfl, fun _ _ _ => rfl, fun _ _ _ => rfl, fun _ _ _ _ => rfl⟩
theorem fx_call {o : List Keyword} : Fx env 1 (.Call a l o p) := ⟨fun _ => rfl, fun _ _ => rfl, fun _ => rfl, fun _ => rfl, fun h => (h rfl).elim, fun _ _ _ => rfl, fun _ _ _ _ => rfl⟩
theorem fx_comp {o : List Comprehension} {sc : Scope} : Fx env 3 (.ListComp a o sc p) := ⟨fun _ => rfl, fun _ _ => rfl, fun _ => rfl, fun _ => rfl, fun _ _ _ => rfl, fun h => (h rfl).elim, fun _ _ _ _ => rfl⟩
end
theorem and_t {a b : Bool} (h : (a && b) = true) : a = true /\ b = true := (Bool.and_eq_true a b).mp h
theorem not_t {a : Bool} (h : (!a) = true) : a = false := (Bool.not_eq_true' a).mp h
theorem ne_t {a b : Nat} (h : (!Nat.beq a b) = true) : a ≠ b := fun e => by subst e; rw [Nat.beq_refl] at h; cases h
structure SndE (X : Cxt) (e : E) : Prop where
 fx : ∀ ee, Fx X.env (form e) (mkE X e ee)
 ev : ∀ ee, okE X e ee -> EvP X (mkE X e ee) (wpE X.F e X.κ) /\ TrP X (mkE X e ee) (wpE X.F e X.κ)
 ls : ∀ es, okL X e es -> LsP X (mkL X e es) (wpL X.F e X.κ) /\ Pl X.env (mkL X e es) /\ (mkL X e es).length = lenE e
 bo : ∀ t es, okL X e es -> isNilE e = false -> BvP X t (mkL X e es) (wpB X.F e X.κ t) /\ BtP X t (mkL X e es) (wpB X.F e X.κ t)
 di : ∀ es, okL X e es -> (evn e).1 = true -> DiP X (mkL X e es) (wpD X.F e X.κ)
 dc : ∀ es, okL X e es -> (evn e).2 = true -> ∃ c d, e = .cons c d /\ EvP X (mkE X c (es.headD default)) (wpE X.F c X.κ) /\ DiP X (mkL X d es.tail) (wpD X.F d X.κ)
theorem SndE.leaf {X : Cxt} {e : E} (hf : ∀ es, ¬ okL X e es) (fx : ∀ ee, Fx X.env (form e) (mkE X e ee)) (h : ∀ ee, okE X e ee -> EvP X (mkE X e ee) (wpE X.F e X.κ) /\ TrP X (mkE X e ee) (wpE X.F e X.κ)) : SndE X e :=
 ⟨fx, h, fun es q => (hf es q).elim, fun _ es q => (hf es q).elim, fun es q => (hf es q).elim, fun es q => (hf es q).elim⟩
theorem getD_at {α : Type} {l : List α} {i : Nat} {d : α} (h : Nat.blt i l.length = true) : l[i]? = some (l.getD i d) := by
 rw [List.getD_eq_getElem?_getD, List.getElem?_eq_getElem (Nat.le_of_ble_eq_true h)]; rfl
theorem kin_mine {env : Env} {x : String} (h : kin env.scope.names x = true) : mine env (Str.ofString x) := by
 rcases (Bool.or_eq_true _ _).mp h with h | h
 ·exact .inl (beq_iff_eq.mp h)
 ·exact .inr (((Bool.or_eq_true _ _).mp h).imp beq_iff_eq.mp beq_iff_eq.mp)
noncomputable def gdc (p : Nat × Int) : V := [V.int p.2, .fn p.2.toNat, .cls p.2.toNat, .tbl p.2.toNat, .bi p.2.toNat].getD p.1 .none
theorem gdc_gcd {v : V} (h : Nat.blt (gcd v).1 9 = true) : gdc (gcd v) = v := by cases v <;> first | rfl | exact Bool.noConfusion h
theorem okG_glob {v : V} {x : String} (h : okG v x = true) : (x, v) ∈ globs := by
 unfold okG at h
 cases e : globs.lookup x with
 | none => rw [e] at h; cases h
 | some u =>
  rw [e] at h
  obtain ⟨h1, h2⟩ := and_t (show (Nat.blt (gcd v).1 9 && (Nat.beq (gcd u).1 (gcd v).1 && decide ((gcd u).2 = (gcd v).2))) = true from h)
  obtain ⟨h2, h3⟩ := and_t h2
  have h2 := Nat.eq_of_beq_eq_true h2
  have h3 := of_decide_eq_true h3
  have h4 : gcd u = gcd v := Prod.ext h2 h3
  rw [<- gdc_gcd h1, <- h4, gdc_gcd (h4 ▸ h1)]
  exact mem_of_lookup e
section
variable {X : Cxt}
theorem ev_const {v : V} {k : Nat} {pos : Pos} (h : isC v = true) : EvP X (.Constant (cst v) k pos) (kPush v) := by
 intro A E s σ π ρ us K Qc H q kk
 have I := H.i
 cases v with
 | none => exact wpAny_Constant_none (kk.now I q .none)
 | bool b => exact wpAny_Constant_bool (kk.now I q (.bool _))
 | int i => exact wpAny_Constant_int (kk.here I q (.int _ _) _)
 | str x => exact wpAny_Constant_str (kk.here I q (.str _ _) _)
 | _ => cases h
theorem ev_lv {i : Nat} {pos : Pos} (h : Nat.blt i X.loc.length = true) (hd : dbg (X.loc.getD i "") = false) (hk : kin X.env.scope.names (X.loc.getD i "") = true) : EvP X (.Name (Str.ofString (X.loc.getD i "")) pos) (wpE X.F (.lv i) X.κ) := by
 intro A E s σ π ρ us K Qc H q kk
 have q : getS ρ[i]? fun v => K ρ σ (v :: us) := q
 cases e : ρ[i]? with
 | none => rw [e] at q; exact q.elim
 | some o =>
  rw [e] at q
  cases o with
  | none => exact q.elim
  | some v => exact (H.x.loc i _ v (getD_at h) e (kin_mine hk)).name H.x.kind hd fun y r => kk.now H.i q r
theorem ev_cv {i : Nat} {pos : Pos} (h : Nat.blt i X.cmp.length = true) (hd : dbg (X.cmp.getD i "") = false) : EvP X (.Name (Str.ofString (X.cmp.getD i "")) pos) (wpE X.F (.cv i) X.κ) := by
 intro A E s σ π ρ us K Qc H q kk
 have q : getC X.κ[i]? fun v => K ρ σ (v :: us) := q
 cases e : X.κ[i]? with
 | none => rw [e] at q; exact q.elim
 | some v =>
  rw [e] at q
  exact (H.x.cmp i _ v (getD_at h) e).name H.x.kind hd fun y r => kk.now H.i q r
theorem ev_gv {v : V} {x : String} {pos : Pos} (Y : FactsE X) (hd : dbg x = false) (hk : X.env.scope.names.lookup (Str.ofString x) = some .globalImplicit) (hg : okG v x = true) : EvP X (.Name (Str.ofString x) pos) (kPush v) := by
 intro A E s σ π ρ us K Qc H q kk
 obtain ⟨y, r, L⟩ := Y.gl.glob x v (okG_glob hg)
 exact Name_function_global H.x.kind hk (L H.i.base H.x.glob H.x.blt (kk.now H.i q (r _ _))) (Bool.or_eq_false_iff.mp hd).1
end
theorem evn_inv {l : E} (h : (evn l).1 = true) : l = .nil ∨ ∃ a c d, l = .cons a (.cons c d) := by
 cases l with
 | nil => exact .inl rfl
 | cons a b => cases b with
  | cons c d => exact .inr ⟨a, c, d, rfl⟩
  | _ => exact absurd h Bool.false_ne_true
 | _ => exact absurd h Bool.false_ne_true
theorem form2 {f : E} (h : Nat.beq (form f) 2 = true) : ∃ v x, f = .gv v x /\ callable v = true := by
 cases f with
 | gv v x =>
  refine ⟨v, x, rfl, ?_⟩
  cases e : callable v with
  | true => rfl
  | false =>
   have h : Nat.beq (bif callable v then 2 else 0) 2 = true := h
   rw [e] at h; cases h
 | _ => exact absurd h Bool.false_ne_true
theorem nil_of {b : E} (h : isNilE b = true) : b = .nil := by
 cases b with
 | nil => rfl
 | _ => exact absurd h Bool.false_ne_true
theorem cons_of {X : Cxt} {b : E} {es : List PySem.Expr} (h : okL X b es) (hb : isNilE b = false) : ∃ f r, mkL X b es = f :: r := by
 cases b with
 | nil => cases hb
 | cons a b => exact ⟨_, _, rfl⟩
 | _ => exact absurd h Bool.false_ne_true
theorem prs_le {env : Env} {p : Pos} (es : List PySem.Expr) : 2 * (prs env p es).length ≤ es.length := by
 fun_induction prs env p es with
 | case1 a b r ih => simp only [List.length_cons]; omega
 | case2 t h => exact Nat.zero_le _
theorem prs_15 {env : Env} {es : List PySem.Expr} (h : Nat.ble es.length 25 = true) (p : Pos) : (prs env p es).length ≤ 15 := by
 have h := Nat.le_of_ble_eq_true h
 have := prs_le (env := env) (p := p) es
 omega
section
variable {X : Cxt} {t : Bool} {es : List PySem.Expr} {pos : Pos} {wa : Kt -> Kt}
theorem ev_boo (h : BvP X t es wa) (h' : BtP X t es wa) : EvP X (.BoolOp (bop t) es pos) wa /\ TrP X (.BoolOp (bop t) es pos) wa :=
 ⟨fun A E s σ π ρ us K Qc H q k => h A E s σ π ρ us pos K Qc H q k, fun A E s σ π ρ us K Q Qc H q T k => h' A E s σ π ρ us K Q Qc H q T k⟩
theorem okSc_txt {sc : Scope} {k : Nat} {cv : List String} {itr : PySem.Expr} (h : okSc X.loc X.env.scope.names sc k cv = true) (hl : ∀ x, foldedSetIterable itr X.env x = pure x) : CompTxt X sc k cv itr := by
 obtain ⟨h1, h⟩ := and_t h
 obtain ⟨h2, h⟩ := and_t h
 obtain ⟨h3, h⟩ := and_t h
 obtain ⟨h4, h⟩ := and_t h
 obtain ⟨h5, h6⟩ := and_t h
 refine ⟨?_, Nat.eq_of_beq_eq_true h2, of_decide_eq_true h3, fun x hx => beq_iff_eq.mp (List.all_eq_true.mp h4 x hx), fun p hp => ?_, fun x hx => ?_, hl⟩
 ·have := h1
  revert this
  cases sc.kind <;> first | exact fun _ => rfl | exact fun h => absurd h Bool.false_ne_true
 ·have := List.all_eq_true.mp h5 p hp
  simp only [Bool.or_eq_true, Bool.and_eq_true, beq_iff_eq, List.any_eq_true] at this
  exact this
 ·have := List.all_eq_true.mp h6 x hx
  simp only [Bool.or_eq_true, Bool.and_eq_true, beq_iff_eq, bne_iff_ne, ne_eq] at this
  exact ⟨this.1, this.2.1, fun z => this.2.2.resolve_left fun y => y z⟩
end
theorem comp_parts {X : Cxt} {elt it cond : E} {k : Nat} {cv : List String} {ee : PySem.Expr} (Y : FactsE X) (hk : X.env.scope.kind = .function) (ie : ∀ X : Cxt, FactsE X -> X.env.scope.kind = .function -> SndE X elt) (ii : ∀ X : Cxt, FactsE X -> X.env.scope.kind = .function -> SndE X it) (ic : ∀ X : Cxt, FactsE X -> X.env.scope.kind = .function -> SndE X cond) (h : okE X (.comp elt it cond k cv) ee) :
  CompTxt X (pt ee).2.2.2.1 k cv (mkE X it (cg ee).iter) /\ EvP X (mkE X it (cg ee).iter) (wpE X.F it X.κ) /\ (∀ cl C κ, EvP (X.sub (pt ee).2.2.2.1 cl C cv κ) ((mk X.loc elt cv).1 (kid ee 0)) (wpE X.F elt κ)) /\
   (isNilE cond = false -> ∀ cl C κ, TrP (X.sub (pt ee).2.2.2.1 cl C cv κ) ((mk X.loc cond cv).1 ((cg ee).ifs.headD ee)) (wpE X.F cond κ)) := by
 obtain ⟨h1, h2, h3, h4⟩ : okSc X.loc X.env.scope.names (pt ee).2.2.2.1 k cv = true /\ okE X it (cg ee).iter /\ (ok X.loc elt (relNames X.env.scope.names (pt ee).2.2.2.1.names) cv).1 (kid ee 0) = true /\ (isNilE cond || (ok X.loc cond (relNames X.env.scope.names (pt ee).2.2.2.1.names) cv).1 ((cg ee).ifs.headD ee)) = true := (and_t h).imp id fun h => (and_t h).imp id and_t
 have I := ii X Y hk
 have T := okSc_txt h1 (I.fx (cg ee).iter).fo
 rw [<- show (relabel (pt ee).2.2.2.1 X.env).names = _ from relabel_names hk] at h3 h4
 exact ⟨T, (I.ev _ h2).1, fun cl C κ => ((ie (X.sub (pt ee).2.2.2.1 cl C cv κ) ⟨Y.cls, Y.inK, Y.tb, Y.gl, Y.sf⟩ T.kind).ev _ h3).1, fun hn cl C κ => ((ic (X.sub (pt ee).2.2.2.1 cl C cv κ) ⟨Y.cls, Y.inK, Y.tb, Y.gl, Y.sf⟩ T.kind).ev _ (by rw [hn] at h4; exact h4)).2⟩
theorem sndE (e : E) : ∀ X : Cxt, FactsE X -> X.env.scope.kind = .function -> SndE X e := by
 induction e with
 | const v =>
  intro X Y hk
  refine .leaf (fun _ => Bool.false_ne_true) (fun _ => fx_const) fun ee h => ?_
  have e := ev_const (X := X) (k := (pt ee).2.2.1) (pos := ee.pos) (show isC v = true from h)
  exact tr_plain e fun _ => rfl
 | lv i =>
  intro X Y hk
  refine .leaf (fun _ => Bool.false_ne_true) (fun _ => fx_name) fun ee h => ?_
  have h : (Nat.blt i X.loc.length && (!dbg (X.loc.getD i "") && kin X.env.scope.names (X.loc.getD i ""))) = true := h
  have e := ev_lv (X := X) (pos := ee.pos) (and_t h).1 (not_t (and_t (and_t h).2).1) (and_t (and_t h).2).2
  exact tr_plain e fun _ => rfl
 | cv i =>
  intro X Y hk
  refine .leaf (fun _ => Bool.false_ne_true) (fun _ => fx_name) fun ee h => ?_
  have h : (Nat.blt i X.cmp.length && !dbg (X.cmp.getD i "")) = true := h
  have e := ev_cv (X := X) (pos := ee.pos) (and_t h).1 (not_t (and_t h).2)
  exact tr_plain e fun _ => rfl
 | gv v x =>
  intro X Y hk
  refine .leaf (fun _ => Bool.false_ne_true) (fun _ => fx_name) fun ee h => ?_
  have h : (!dbg x && (X.env.scope.names.lookup (Str.ofString x) == some .globalImplicit && okG v x)) = true := h
  have e := ev_gv (X := X) (pos := ee.pos) Y (not_t (and_t h).1) (beq_iff_eq.mp (and_t (and_t h).2).1) (and_t (and_t h).2).2
  exact tr_plain e fun _ => rfl
 | bin op a b ia ib =>
  intro X Y hk
  refine .leaf (fun _ => Bool.false_ne_true) (fun _ => fx_bin) fun ee h => ?_
  have h : okE X a (kid ee 0) /\ okE X b (kid ee 1) := and_t h
  have e := ev_bin (op := op) (pos := ee.pos) ((ia X Y hk).ev _ h.1).1 ((ib X Y hk).ev _ h.2).1
  exact tr_plain e fun _ => rfl
 | not a ia =>
  intro X Y hk
  refine .leaf (fun _ => Bool.false_ne_true) (fun _ => fx_un) fun ee h => ?_
  have h : okE X a (kid ee 0) := h
  have e := ev_not (pos := ee.pos) ((ia X Y hk).ev _ h).1 ((ia X Y hk).ev _ h).2
  exact e
 | neg a ia =>
  intro X Y hk
  refine .leaf (fun _ => Bool.false_ne_true) (fun _ => fx_un) fun ee h => ?_
  have h : okE X a (kid ee 0) := h
  have e := ev_neg (pos := ee.pos) ((ia X Y hk).ev _ h).1
  exact tr_plain e fun _ => rfl
 | boo t l il =>
  intro X Y hk
  refine .leaf (fun _ => Bool.false_ne_true) (fun _ => fx_boo) fun ee h => ?_
  have h : (!isNilE l) = true /\ okL X l (pt ee).1 := and_t h
  have b := (il X Y hk).bo t _ h.2 (not_t h.1)
  have e := ev_boo (pos := ee.pos) b.1 b.2
  exact e
 | cmp op a b ia ib =>
  intro X Y hk
  refine .leaf (fun _ => Bool.false_ne_true) (fun _ => fx_cmp) fun ee h => ?_
  have h : okE X a (kid ee 0) /\ okE X b (kid ee 1) := and_t h
  have e := ev_cmp (op := op) (pos := ee.pos) Y (((ib X Y hk).fx _).bm _) ((ia X Y hk).ev _ h.1).1 ((ib X Y hk).ev _ h.2).1
  exact e
 | ife c a b ic ia ib =>
  intro X Y hk
  refine .leaf (fun _ => Bool.false_ne_true) (fun _ => fx_ife) fun ee h => ?_
  obtain ⟨h1, h2⟩ : okE X c (kid ee 0) /\ (okE X a (kid ee 1) /\ okE X b (kid ee 2)) := (and_t h).imp id and_t
  have a := (ia X Y hk).ev _ h2.1
  have b := (ib X Y hk).ev _ h2.2
  have e := ev_ife (pos := ee.pos) ((ic X Y hk).ev _ h1).2 a.1 a.2 b.1 b.2
  exact e
 | tup l il =>
  intro X Y hk
  refine .leaf (fun _ => Bool.false_ne_true) (fun _ => fx_tup) fun ee h => ?_
  have h : Nat.ble (lenE l) 25 = true /\ okL X l (pt ee).1 := and_t h
  have b := (il X Y hk).ls _ h.2
  rw [<- b.2.2] at h
  have e := ev_tup (kk := (pt ee).2.2.1) (pos := ee.pos) b.1 h.1
  exact tr_plain e fun _ => rfl
 | list l il =>
  intro X Y hk
  refine .leaf (fun _ => Bool.false_ne_true) (fun _ => fx_list) fun ee h => ?_
  have h : Nat.ble (lenE l) 25 = true /\ okL X l (pt ee).1 := and_t h
  have b := (il X Y hk).ls _ h.2
  rw [<- b.2.2] at h
  have e := ev_list (pos := ee.pos) b.1 h.1
  exact tr_plain e fun _ => rfl
 | dict l il =>
  intro X Y hk
  refine .leaf (fun _ => Bool.false_ne_true) (fun _ => fx_dict) fun ee h => ?_
  obtain ⟨h1, h2⟩ : (Nat.ble (lenE l) 25 = true /\ (evn l).1 = true) /\ okL X l (pt ee).1 := (and_t h).imp and_t id
  have b := (il X Y hk).ls _ h2
  have d := (il X Y hk).di _ h2 h1.2
  rw [<- b.2.2] at h1
  rcases evn_inv h1.2 with rfl | ⟨a, c, f, rfl⟩
  ·have e := ev_dict0 (X := X) (pos := ee.pos)
   exact tr_plain e fun _ => rfl
  ·have e := ev_dict (es := mkL X (.cons a (.cons c f)) (pt ee).1) (pos := ee.pos) Y (fun _ => List.cons_ne_nil _ _) (prs_15 h1.1) d
   exact tr_plain e fun _ => rfl
 | idx a b ia ib =>
  intro X Y hk
  refine .leaf (fun _ => Bool.false_ne_true) (fun _ => fx_sub) fun ee h => ?_
  have h : okE X a (kid ee 0) /\ okE X b (kid ee 1) := and_t h
  have e := ev_idx (pos := ee.pos) Y ((ib X Y hk).fx _).su ((ia X Y hk).ev _ h.1).1 ((ib X Y hk).ev _ h.2).1
  exact tr_plain e fun _ => rfl
 | upto a b ia ib =>
  intro X Y hk
  refine .leaf (fun _ => Bool.false_ne_true) (fun _ => fx_sub) fun ee h => ?_
  have h : okE X a (kid ee 0) /\ okE X b (okid (kid ee 1) 1) := and_t h
  have e := ev_upto (pos := ee.pos) (p2 := (kid ee 1).pos) ((ia X Y hk).ev _ h.1).1 ((ib X Y hk).ev _ h.2).1
  exact tr_plain e fun _ => rfl
 | from' a b ia ib =>
  intro X Y hk
  refine .leaf (fun _ => Bool.false_ne_true) (fun _ => fx_sub) fun ee h => ?_
  have h : okE X a (kid ee 0) /\ okE X b (okid (kid ee 1) 0) := and_t h
  have e := ev_from (pos := ee.pos) (p2 := (kid ee 1).pos) ((ia X Y hk).ev _ h.1).1 ((ib X Y hk).ev _ h.2).1
  exact tr_plain e fun _ => rfl
 | all a ia =>
  intro X Y hk
  refine .leaf (fun _ => Bool.false_ne_true) (fun _ => fx_sub) fun ee h => ?_
  have h : okE X a (kid ee 0) := h
  have e := ev_all (pos := ee.pos) (p2 := (kid ee 1).pos) ((ia X Y hk).ev _ h).1
  exact tr_plain e fun _ => rfl
 | rev a ia =>
  intro X Y hk
  refine .leaf (fun _ => Bool.false_ne_true) (fun _ => fx_sub) fun ee h => ?_
  have h : okE X a (kid ee 0) := h
  have e := ev_rev (pos := ee.pos) (k1 := (pt (kid (okid (kid ee 1) 2) 0)).2.2.1) (p2 := (kid ee 1).pos) (p3 := (kid (okid (kid ee 1) 2) 0).pos) (p4 := (okid (kid ee 1) 2).pos) ((ia X Y hk).ev _ h).1
  exact tr_plain e fun _ => rfl
 | attr a n ia =>
  intro X Y hk
  refine .leaf (fun _ => Bool.false_ne_true) (fun _ => fx_attr) fun ee h => ?_
  obtain ⟨h1, h2⟩ : (Nat.blt n nAt = true /\ (!Nat.beq (form a) 1) = true) /\ okE X a (kid ee 0) := (and_t h).imp and_t id
  have e := ev_attr (pos := ee.pos) Y (Nat.le_of_ble_eq_true h1.1) (((ia X Y hk).fx _).ab (ne_t h1.2)) ((ia X Y hk).ev _ h2).1
  exact tr_plain e fun _ => rfl
 | call f l if_ il =>
  intro X Y hk
  refine .leaf (fun _ => Bool.false_ne_true) (fun _ => fx_call) fun ee h => ?_
  obtain ⟨h1, h2, h3⟩ : Nat.beq (form f) 2 = true /\ (okE X f (kid ee 0) /\ okL X l (pt ee).1.tail) := (and_t h).imp id and_t
  have b := (il X Y hk).ls _ h3
  have g := ((if_ X Y hk).ev _ h2).1
  obtain ⟨v, x, rfl, hv⟩ := form2 h1
  have e := ev_call (pos := ee.pos) Y rfl hv b.2.1 g b.1
  exact tr_plain e fun _ => rfl
 | meth o m l io il =>
  intro X Y hk
  refine .leaf (fun _ => Bool.false_ne_true) (fun _ => fx_call) fun ee h => ?_
  obtain ⟨⟨h1, h4⟩, h2, h3⟩ : (((kid ee 0).pos.endLine == ee.pos.line) = true /\ (!Nat.beq (form o) 1 && Nat.ble (lenE l) 25) = true) /\ (okE X o (kid (kid ee 0) 0) /\ okL X l (pt ee).1.tail) := (and_t h).imp and_t and_t
  have h4 := and_t h4
  have b := (il X Y hk).ls _ h3
  rw [<- b.2.2] at h4
  have e := ev_meth (m := m) Y h1 (((io X Y hk).fx _).ab (ne_t h4.1)) b.2.1 h4.2 ((io X Y hk).ev _ h2).1 b.1
  exact tr_plain e fun _ => rfl
 | comp elt it cond k cv ie ii ic =>
  intro X Y hk
  refine .leaf (fun _ => Bool.false_ne_true) (fun _ => fx_comp) fun ee h => ?_
  obtain ⟨T, h2, h3, h4⟩ := comp_parts Y hk ie ii ic h
  have e := ev_comp (el := (mk X.loc elt cv).1 (kid ee 0)) (pos := ee.pos) (kk := (pt (cg ee).target).2.2.1) (ps := (pt (cg ee).target).1) (tp := (cg ee).target.pos) (b := isNilE cond) (wc := wpE X.F cond) (we := wpE X.F elt) (c := (mk X.loc cond cv).1 ((cg ee).ifs.headD ee)) Y T h2 h3 h4
  exact tr_plain e fun _ => rfl
 | nil => exact fun X Y hk => ⟨fun _ => fx_name, fun _ h => absurd h Bool.false_ne_true, fun _ _ => ⟨ls_nil, trivial, rfl⟩, (fun _ _ _ h => nomatch h), fun _ _ _ => di_nil, fun _ _ h => absurd h Bool.false_ne_true⟩
 | cons a b ia ib =>
  intro X Y hk
  have A := ia X Y hk
  have B := ib X Y hk
  refine ⟨fun _ => fx_name, fun _ h => absurd h Bool.false_ne_true, fun es h => ?_, fun t es h _ => ?_, fun es h he => ?_, fun es h he => ⟨a, b, rfl, (A.ev _ (and_t h).1).1, B.di _ (and_t h).2 he⟩⟩
  ·have L := B.ls _ (and_t h).2
   exact ⟨ls_cons ((A.fx _).st _) (A.ev _ (and_t h).1).1 L.1, ⟨(A.fx _).st _, L.2.1⟩, congrArg Nat.succ L.2.2⟩
  ·have A1 := A.ev _ (and_t h).1
   cases hb : isNilE b with
   | true =>
    have e : wpB X.F (.cons a b) X.κ t = wpE X.F a X.κ := by funext K; show (bif isNilE b then _ else _) = _; rw [hb]; rfl
    rw [e]
    obtain rfl := nil_of hb
    exact ⟨fun A E s σ π ρ us pos K Qc H q k => A1.1 A E s σ π ρ us K Qc H q k, bt_one A1.2⟩
   | false =>
    have e : wpB X.F (.cons a b) X.κ t = fun K => wpE X.F a X.κ (bif t then kAnd (wpB X.F b X.κ t K) K else kOr (wpB X.F b X.κ t K) K) := by funext K; show (bif isNilE b then _ else _) = _; rw [hb]; rfl
    rw [e]
    have B1 := B.bo t _ (and_t h).2 hb
    obtain ⟨f, r, e⟩ := cons_of (and_t h).2 hb
    refine ⟨?_, bt_cons A1.2 B1.2⟩
    show BvP X t (mkE X a (es.headD default) :: mkL X b es.tail) _
    rw [e] at B1 ⊢
    exact bv_cons A1.1 B1.1
  ·obtain ⟨c, d, rfl, hc, hd⟩ := B.dc _ (and_t h).2 he
   exact di_cons (A.ev _ (and_t h).1).1 hc hd
inductive CellAt (X : Cxt) (h : Heap) (π : Pi) (x : String) (o : Option (Option V)) : Prop
 | mk {c : Addr} {u : Option Value} : X.env.cells.lookup (Str.ofString x) = some c -> h.IsCell c u -> c ∉ addrs π -> X.g₀.get? c = none -> c ≠ X.G.lst -> (∀ v, o = some (some v) -> ∃ y, u = some y /\ VR X.G h π v y) -> CellAt X h π x o
structure Frame (X : Cxt) (h : Heap) (π : Pi) (ρ : Fr) : Prop where
 kind : X.env.scope.kind = .function
 glob : X.env.globals = mainGlobals
 blt : X.env.builtins = builtinsNs
 cmp : X.cmp = []
 len : ρ.length = X.loc.length
 own : ∃ m, Own X.G π X.g₀ h X.env.locals m /\ (∀ (i : Nat) x v, X.loc[i]? = some x -> ρ[i]? = some (some v) -> X.env.kindOf (Str.ofString x) = some .local -> ∃ y, m (Str.ofString x) = some y /\ VR X.G h π v y)
 cell : ∀ (i : Nat) x, X.loc[i]? = some x -> X.env.kindOf (Str.ofString x) = some .cell -> CellAt X h π x ρ[i]?
 apart : ∀ x c, X.env.cells.lookup x = some c -> c ≠ X.env.locals
 inj : ∀ x y c, X.env.cells.lookup x = some c -> X.env.cells.lookup y = some c -> x = y
 free : ∀ (i : Nat) x, X.loc[i]? = some x -> X.env.kindOf (Str.ofString x) ≠ some .free
 nd : X.loc.Nodup
 all : ∀ x c, X.env.cells.lookup x = some c -> ∃ (i : Nat) (y : String), X.loc[i]? = some y /\ Str.ofString y = x /\ X.env.kindOf x = some .cell
def Touch (env : Env) (a : Addr) : Prop := a = env.locals ∨ ∃ x, env.cells.lookup x = some a
structure FC (h₀ : Heap) (env : Env) : Prop where
 l0 : h₀.get? env.locals = none
 c0 : ∀ x c, env.cells.lookup x = some c -> h₀.get? c = none
structure Fst (X : Cxt) (s₀ : Shared) (π₀ : Pi) (s : Shared) (σ : St) (π : Pi) (ρ : Fr) : Prop where
 J : Inv X.w.params X.G X.g₀ s.heap σ π
 S : Step s₀.heap π₀ s.heap π
 z : Same s₀ s
 fr : Frame X s.heap π ρ
section
variable {X : Cxt} {P : Params} {h h' : Heap} {s s' s₀ : Shared} {σ σ' : St} {π π' π₀ : Pi} {ρ : Fr} {x : String} {o : Option (Option V)} {L : Addr}
theorem CellAt.step (Z : CellAt X h π x o) (I : Inv P X.G X.g₀ h σ π) (S : Step h π h' π') : CellAt X h' π' x o := by
 induction Z with
 | mk h1 h2 h3 h4 h5 h6 =>
  obtain ⟨oc, h2, hd⟩ := h2
  exact .mk h1 ⟨oc, S.keep _ _ h2 h3, hd⟩ (S.apart h2 h3) h4 h5 fun v hv => (h6 v hv).imp fun y h => ⟨h.1, h.2.step I S⟩
theorem CellAt.side (Z : CellAt X h π x o) (D : Side X.G π X.g₀ h h' L) (n : X.env.cells.lookup (Str.ofString x) ≠ some L) : CellAt X h' π x o := by
 induction Z with
 | mk h1 h2 h3 h4 h5 h6 =>
  obtain ⟨oc, h2, hd⟩ := h2
  exact .mk h1 ⟨oc, D.other _ _ (fun e => n (e ▸ h1)) h2, hd⟩ h3 h4 h5 fun v hv => (h6 v hv).imp fun y h => ⟨h.1, h.2.side D⟩
theorem Frame.sees (F : Frame X h π ρ) : Sees X h π ρ := by
 obtain ⟨m, O, hm⟩ := F.own
 refine ⟨F.kind, F.glob, F.blt, fun i x v hx => (by rw [F.cmp] at hx; cases hx), fun i x v hx hv hl => ?_, fun i x hx hl => ?_⟩
 ·by_cases k : X.env.kindOf (Str.ofString x) = some .local
  ·obtain ⟨y, h1, h2⟩ := hm i x v hx hv k
   exact .loc k O.apart O.ns h1 h2
  ·have k := (hl.resolve_left k).resolve_right (F.free i x hx)
   induction F.cell i x hx k with
   | mk h1 h2 h3 _ _ h6 =>
    obtain ⟨y, rfl, r⟩ := h6 v hv
    exact .cell (.inl k) h1 h3 h2 r
 ·induction F.cell i x hx hl with
  | mk h1 _ _ _ _ _ => exact ⟨_, h1⟩
theorem Frame.step (F : Frame X h π ρ) (I : Inv P X.G X.g₀ h σ π) (S : Step h π h' π') : Frame X h' π' ρ := by
 obtain ⟨m, O, hm⟩ := F.own
 exact ⟨F.kind, F.glob, F.blt, F.cmp, F.len, ⟨m, O.step S, fun i x v hx hv hl => (hm i x v hx hv hl).imp fun y h => ⟨h.1, h.2.step I S⟩⟩, fun i x hx hl => (F.cell i x hx hl).step I S, F.apart, F.inj, F.free, F.nd, F.all⟩
theorem Frame.side (F : Frame X h π ρ) (D : Side X.G π X.g₀ h h' L) (nt : ¬ Touch X.env L) : Frame X h' π ρ := by
 obtain ⟨m, O, hm⟩ := F.own
 exact ⟨F.kind, F.glob, F.blt, F.cmp, F.len, ⟨m, O.side D fun e => nt (.inl e.symm), fun i x v hx hv hl => (hm i x v hx hv hl).imp fun y h => ⟨h.1, h.2.side D⟩⟩, fun i x hx hl => (F.cell i x hx hl).side D fun e => nt (.inr ⟨_, e⟩), F.apart, F.inj, F.free, F.nd, F.all⟩
theorem Fst.step (Z : Fst X s₀ π₀ s σ π ρ) (J : Inv X.w.params X.G X.g₀ s'.heap σ' π') (S : Step s.heap π s'.heap π') (z : Same s s') : Fst X s₀ π₀ s' σ' π' ρ := ⟨J, Z.S.trans S, Z.z.trans z, Z.fr.step Z.J S⟩
theorem Fst.side {ρ' : Fr} (Z : Fst X s₀ π₀ s σ π ρ) (D : Side X.G π X.g₀ s.heap s'.heap L) (z : Same s s') (n0 : s₀.heap.get? L = none) (fr : Frame X s'.heap π ρ') : Fst X s₀ π₀ s' σ π ρ' := ⟨Z.J.side D, Z.S.side D n0, Z.z.trans z, fr⟩
theorem Fst.stand {A : Around} (Z : Fst X s₀ π₀ s σ π ρ) (d : Deep (X.n + 1) A) : Stand X A s σ π ρ := ⟨d, Z.J, Z.fr.sees⟩
theorem nodup_at {l : List String} (nd : l.Nodup) {i j : Nat} {x : String} (hi : l[i]? = some x) (hj : l[j]? = some x) : i = j := (List.getElem?_inj (List.getElem?_eq_some_iff.mp hi).1 nd).mp (hi.trans hj.symm)
theorem set_at {i j : Nat} {v u : V} (hi : i < ρ.length) (e : (ρ.set i (some v))[j]? = some (some u)) : (j = i /\ u = v) ∨ (j ≠ i /\ ρ[j]? = some (some u)) := by
 by_cases z : i = j
 ·subst z; rw [List.getElem?_set_self hi] at e; cases e; exact .inl ⟨rfl, rfl⟩
 ·rw [List.getElem?_set_ne z] at e; exact .inr ⟨fun e => z e.symm, e⟩
theorem Frame.turned {i : Nat} {x : String} {v : V} {y : Value} {L : Addr} (F : Frame X h π ρ) (hx : X.loc[i]? = some x) (r : VR X.G h π v y) (D : Side X.G π X.g₀ h h' L)
  (own : ∃ m, Own X.G π X.g₀ h' X.env.locals m /\ (∀ (j : Nat) z u, X.loc[j]? = some z -> (ρ.set i (some v))[j]? = some (some u) -> X.env.kindOf (Str.ofString z) = some .local -> ∃ y, m (Str.ofString z) = some y /\ VR X.G h' π u y))
  (me : X.env.kindOf (Str.ofString x) = some .cell -> CellAt X h' π x (some (some v))) (oth : ∀ z, z ≠ x -> X.env.cells.lookup (Str.ofString z) ≠ some L) : Frame X h' π (ρ.set i (some v)) := by
 refine ⟨F.kind, F.glob, F.blt, F.cmp, by rw [List.length_set]; exact F.len, own, fun j z hz hl => ?_, F.apart, F.inj, F.free, F.nd, F.all⟩
 have hi : i < ρ.length := by rw [F.len]; exact (List.getElem?_eq_some_iff.mp hx).1
 by_cases e : z = x
 ·subst e
  obtain rfl := nodup_at F.nd hx hz
  rw [List.getElem?_set_self hi]
  exact me hl
 ·rw [List.getElem?_set_ne fun q => e (by subst q; rw [hx] at hz; cases hz; rfl)]
  exact (F.cell j z hz hl).side D (oth z e)
theorem storeSlot {prog : Program} {w : World} {A : Around} {E : Value -> Shared -> Prop} (c : FC s₀.heap X.env) (Z : Fst X s₀ π₀ s σ π ρ) {i : Nat} {x : String} {v : V} {y : Value} {Q : Unit -> Shared -> Prop} (hx : X.loc[i]? = some x) (hk : X.env.kindOf (Str.ofString x) = some .local ∨ X.env.kindOf (Str.ofString x) = some .cell) (ry : VR X.G s.heap π v y)
  (h : ∀ s', Fst X s₀ π₀ s' σ π (ρ.set i (some v)) -> (∃ L, Touch X.env L /\ Side X.G π X.g₀ s.heap s'.heap L) -> Q () s') : wpAny (model prog w) A (storeName X.env (Str.ofString x) y) Q E s := by
 have F := Z.fr
 obtain ⟨m, O, hm⟩ := F.own
 have hi : i < ρ.length := by rw [F.len]; exact (List.getElem?_eq_some_iff.mp hx).1
 rcases hk with hk | hk
 ·refine storeLocal F.kind hk O fun h' tk sd O' => ?_
  refine h { s with heap := h', toks := tk } (Z.side sd ⟨rfl, rfl⟩ c.l0 (F.turned hx ry sd ⟨_, O', fun j z u hz hu hl => ?_⟩ (fun e => nomatch hk.symm.trans e) fun z _ e => F.apart _ _ e rfl)) ⟨_, .inl rfl, sd⟩
  rcases set_at hi hu with ⟨rfl, rfl⟩ | ⟨hne, hu⟩
  ·rw [hz] at hx; cases hx
   exact ⟨y, if_pos rfl, ry.side sd⟩
  ·obtain ⟨y', h1, h2⟩ := hm j z u hz hu hl
   exact ⟨y', (if_neg fun e => hne (nodup_at F.nd hz (by rw [ofString_inj e]; exact hx))).trans h1, h2.side sd⟩
 ·induction F.cell i x hx hk with
  | @mk d u₀ h1 hcell h3 h4 h5 h6 =>
   refine wpAny_storeName_cell F.kind hk h1 hcell fun h' hc' hs' => ?_
   obtain ⟨od, h2, hd⟩ := id hcell
   have sd : Side X.G π X.g₀ s.heap h' d := ⟨fun b o hb e => (hs'.2 b hb).trans e, nt ⟨od, h2, not_of_cell hd⟩, h3, h4, h5⟩
   refine h { s with heap := h' } (Z.side sd ⟨rfl, rfl⟩ (c.c0 _ _ h1) (F.turned hx ry sd ⟨m, O.side sd fun e => F.apart _ _ h1 e.symm, fun j z u hz hu hl => ?_⟩ (fun _ => .mk h1 hc' h3 h4 h5 fun v' e => ⟨y, rfl, by cases e; exact ry.side sd⟩) fun z hz e => hz (ofString_inj (F.inj _ _ d e h1)))) ⟨_, .inr ⟨_, h1⟩, sd⟩
   rcases set_at hi hu with ⟨rfl, rfl⟩ | ⟨hne, hu⟩
   ·rw [hz] at hx; cases hx; rw [hk] at hl; cases hl
   ·exact (hm j z u hz hu hl).imp fun y h => ⟨h.1, h.2.side sd⟩
end
noncomputable def trnd (env : Env) (loc : List String) : List Addr := env.locals :: loc.filterMap fun x => env.cells.lookup (Str.ofString x)
section
variable {P : Params} {G : Gl} {g₀ h h₀ : Heap} {σ : St} {π π₀ : Pi}
structure Free (G : Gl) (π : Pi) (g₀ h : Heap) (a : Addr) : Prop where
 na : a ∉ addrs π
 nb : g₀.get? a = none
 nl : a ≠ G.lst
 old : ∀ o, h.get? a = some o -> (∀ vs, o ≠ tupO vs) /\ ∀ lo hi t u v, o ≠ rngO lo hi t u v
theorem Free.hide {a b : Addr} (x : Free G π g₀ h b) : Free G π g₀ (h.hide a) b := ⟨x.na, x.nb, x.nl, fun o e => x.old o (Heap.of_hide e)⟩
theorem Free.side {a : Addr} (x : Free G π g₀ h a) : Side G π g₀ h (h.hide a) a := ⟨fun c o n e => (Heap.hide_ne h n).trans e, x.old, x.na, x.nb, x.nl⟩
theorem hidden {M : Heap -> Prop} {l : List Addr} (m : ∀ h a, a ∈ l -> Free G π g₀ h a -> M h -> M (h.hide a)) : ∀ {h : Heap}, (∀ a ∈ l, Free G π g₀ h a) -> M h -> M (hideAll h l) := by
 induction l with
 | nil => exact fun _ z => z
 | cons a r ih => exact fun hl z => ih (fun h b hb => m h b (.tail _ hb)) (fun b hb => (hl b (.tail _ hb)).hide) (m _ a (.head _) (hl a (.head _)) z)
theorem Step.unhide (l : List Addr) : Step (hideAll h l) π h π := ⟨fun _ _ e => e, fun a o e _ => of_hideAll l e, fun a m => .inl m, fun a o e => ⟨o, of_hideAll l e, rfl⟩⟩
end
section
variable {X : Cxt} {prog : Program} {w : World} {A : Around} {E : Value -> Shared -> Prop} {s₀ s s' : Shared} {π₀ π π' : Pi} {σ σ' : St} {ρ ρ' : Fr} {a : Addr}
theorem trnd_touch (h : a ∈ trnd X.env X.loc) : Touch X.env a := (List.mem_cons.mp h).imp id fun h => let ⟨_, _, hx⟩ := List.mem_filterMap.mp h; ⟨_, hx⟩
theorem Frame.touch {h : Heap} (F : Frame X h π ρ) (t : Touch X.env a) : a ∈ trnd X.env X.loc := by
 rcases t with rfl | ⟨x, hx⟩
 ·exact .head _
 ·obtain ⟨i, y, hi, rfl, _⟩ := F.all x a hx
  exact .tail _ (List.mem_filterMap.mpr ⟨y, List.mem_of_getElem? hi, hx⟩)
theorem Frame.free' {h : Heap} (F : Frame X h π ρ) (m : a ∈ trnd X.env X.loc) : (∃ o, h.get? a = some o) /\ Free X.G π X.g₀ h a := by
 rcases trnd_touch m with rfl | ⟨x, hx⟩
 ·obtain ⟨m, O, _⟩ := F.own
  obtain ⟨o, es, ep, ho, hd, _⟩ := O.ns
  exact ⟨⟨o, ho⟩, O.apart, O.base, O.lst, nt ⟨o, ho, not_of_dict hd⟩⟩
 ·obtain ⟨i, y, hi, rfl, hk⟩ := F.all x a hx
  induction F.cell i y hi hk with
  | mk h1 h2 h3 h4 h5 _ =>
   rw [hx] at h1; cases h1
   obtain ⟨oc, h2, hd⟩ := h2
   exact ⟨⟨oc, h2⟩, h3, h4, h5, nt ⟨oc, h2, not_of_cell hd⟩⟩
theorem FC.of (c : FC s₀.heap X.env) (h : a ∈ trnd X.env X.loc) : s₀.heap.get? a = none := by
 rcases trnd_touch h with rfl | ⟨x, hx⟩
 ·exact c.l0
 ·exact c.c0 _ _ hx
noncomputable abbrev ghost (X : Cxt) (s : Shared) : Shared := { s with heap := hideAll s.heap (trnd X.env X.loc) }
theorem Fst.mkGhost (Z : Fst X s₀ π₀ s σ π ρ) : FC (ghost X s).heap X.env /\ Fst X (ghost X s) π s σ π ρ :=
 ⟨⟨hideAll_none _ (Z.fr.touch (.inl rfl)), fun x c hc => hideAll_none _ (Z.fr.touch (.inr ⟨x, hc⟩))⟩, ⟨Z.J, Step.unhide _, ⟨rfl, rfl⟩, Z.fr⟩⟩
theorem Fst.unghost (c : FC s₀.heap X.env) (Z : Fst X s₀ π₀ s σ π ρ) (Y : Fst X (ghost X s) π s' σ' π' ρ') : Fst X s₀ π₀ s' σ' π' ρ' :=
 ⟨Y.J, (hidden (M := fun h => Step s₀.heap π₀ h π) (fun h a ha f S => S.side f.side (c.of ha)) (fun a ha => (Z.fr.free' ha).2) Z.S).trans Y.S, ⟨Y.z.1.trans Z.z.1, Y.z.2.trans Z.z.2⟩, Y.fr⟩
theorem Fst.iter (Z : Fst X s₀ π₀ s σ π ρ) (Y : Fst X (ghost X s) π s' σ' π' ρ') {It : Addr} {l : List V} {ℓ : Option Nat} {i : Nat} (nt : ¬ Touch X.env It) (na : It ∉ addrs π) (it : IT X.G s.heap π It l ℓ i) : IT X.G s'.heap π' It l ℓ i /\ It ∉ addrs π' := by
 have fr := fun a ha => (Z.fr.free' (a := a) ha).2
 have it' := hidden (M := fun h => IT X.G h π It l ℓ i) (fun h a ha f x => x.side f.side fun e => nt (e ▸ trnd_touch ha)) fr it
 have J' := hidden (M := fun h => Inv X.w.params X.G X.g₀ h σ π) (fun h a ha f I => I.side f.side) fr Z.J
 obtain ⟨o, ho, _⟩ := it'.alive
 exact ⟨it'.step J' Y.S na, Y.S.apart ho na⟩
theorem Fst.alive (Z : Fst X s₀ π₀ s σ π ρ) {C : Addr} (h : s.heap.get? C = none) : ¬ Touch X.env C := fun t => by
 obtain ⟨⟨o, e⟩, _⟩ := Z.fr.free' (Z.fr.touch t)
 rw [h] at e; cases e
noncomputable def okSlot (loc : List String) (nm : Nm) (i : Nat) : Bool := Nat.blt i loc.length && (nm.lookup (Str.ofString (loc.getD i "")) == some .local || nm.lookup (Str.ofString (loc.getD i "")) == some .cell)
theorem slot_is {i : Nat} (h : okSlot X.loc X.env.scope.names i = true) : X.loc[i]? = some (X.loc.getD i "") /\ (X.env.kindOf (Str.ofString (X.loc.getD i "")) = some .local ∨ X.env.kindOf (Str.ofString (X.loc.getD i "")) = some .cell) :=
 ⟨getD_at (and_t h).1, ((Bool.or_eq_true _ _).mp (and_t h).2).imp beq_iff_eq.mp beq_iff_eq.mp⟩
theorem setK_out {v : V} {ρ : Fr} : ∀ {i : Nat} {f : Fr -> Prop}, setK v ρ i f -> f (ρ.set i (some v)) := by
 induction ρ with
 | nil => exact fun q => q.elim
 | cons a r ih =>
  intro i f q
  cases i with
  | zero => exact q
  | succ i => exact ih (f := fun r' => f (a :: r')) q
theorem setKs_len {f : Fr -> Prop} {is : List Nat} : ∀ {vs : List V} {ρ : Fr}, setKs is vs ρ f -> vs.length = is.length := by
 induction is with
 | nil => intro vs ρ q; cases vs with
  | nil => rfl
  | cons _ _ => exact q.elim
 | cons i is ih => intro vs ρ q; cases vs with
  | nil => exact q.elim
  | cons v vs => exact congrArg Nat.succ (ih (setK_out q))
def Lift (X : Cxt) (s s' : Shared) (π : Pi) : Prop := ∀ It l ℓ i, ¬ Touch X.env It -> IT X.G s.heap π It l ℓ i -> IT X.G s'.heap π It l ℓ i
theorem storeTupS (hA : A.handled = none) (c : FC s₀.heap X.env) {is : List Nat} {es : List PySem.Expr} {kk : Nat} {pos : Pos} {l : List V} {y : Value} {f : Fr -> Prop} {Q : Unit -> Shared -> Prop} (ho : is.all (okSlot X.loc X.env.scope.names) = true) (hs : setKs is l ρ f) (ry : VR X.G s.heap π (.tup l) y) (Z : Fst X s₀ π₀ s σ π ρ)
  (h : ∀ s' ρ', f ρ' -> Fst X s₀ π₀ s' σ π ρ' -> Lift X s s' π -> Q () s') : wpAny (model prog w) A (assign (.Tuple (mkNames (is.map fun i => X.loc.getD i "") es) kk pos) X.env y) Q E s := by
 refine unpackNames (J := fun xs ys s' => ∃ is vs ρ', xs = List.map (fun i => X.loc.getD i "") is /\ is.all (okSlot X.loc X.env.scope.names) = true /\ setKs is vs ρ' f /\ VRs X.G s'.heap π vs ys /\ Fst X s₀ π₀ s' σ π ρ' /\ Lift X s s' π) hA (by rw [List.length_map]; exact setKs_len hs) ry ?_ ?_ ?_
 ·rintro x xs ys s' ⟨is, vs, ρ', e, ho, hs, rs, Z', li⟩
  cases is with
  | nil => cases e
  | cons i is =>
   cases e
   cases vs with
   | nil => exact hs.elim
   | cons v vs =>
    obtain ⟨y, ys', rfl, r, rs⟩ := rs.uncons
    obtain ⟨ho1, ho2⟩ := and_t (show (okSlot X.loc X.env.scope.names i && is.all (okSlot X.loc X.env.scope.names)) = true from ho)
    obtain ⟨hx, hk⟩ := slot_is ho1
    refine ⟨y, ys', rfl, fun Q go => storeSlot c Z' hx hk r fun s'' Z2 D => ?_⟩
    obtain ⟨L, hL, D⟩ := D
    exact go s'' ⟨is, vs, _, rfl, ho2, setK_out hs, rs.side D, Z2, fun It l ℓ i hn x => (li It l ℓ i hn x).side D fun e => hn (e ▸ hL)⟩
 ·intro ys h' k rs
  obtain ⟨I', S'⟩ := Z.J.ext k
  have D : ∀ L, (∀ o, s.heap.get? L = some o -> (∀ vs, o ≠ tupO vs) /\ ∀ lo hi t u v, o ≠ rngO lo hi t u v) -> L ∉ addrs π -> X.g₀.get? L = none -> L ≠ X.G.lst -> Side X.G π X.g₀ s.heap h' L := fun L a b c d => ⟨fun c o _ e => k c o e, a, b, c, d⟩
  have f := (Z.fr.free' (.head _)).2
  refine ⟨is, l, ρ, rfl, ho, hs, rs.step Z.J S', Z.step (s' := { s with heap := h' }) I' S' ⟨rfl, rfl⟩, fun It l ℓ i hn x => ?_⟩
  exact x.side (D _ f.old f.na f.nb f.nl) fun e => hn (.inl e)
 ·rintro ys s' ⟨is, vs, ρ', e, ho, hs, rs, Z', li⟩
  cases is with
  | cons _ _ => cases e
  | nil =>
   cases vs with
   | cons _ _ => exact hs.elim
   | nil => exact ⟨rs.unnil, h s' ρ' hs Z' li⟩
end
abbrev KontN (X : Cxt) (s₀ : Shared) (π₀ : Pi) (N : Nt) (Rc : Flow -> Shared -> Prop) : Prop := ∀ ρ' σ' s' π', N ρ' σ' -> Fst X s₀ π₀ s' σ' π' ρ' -> Rc .next s'
abbrev KontR (X : Cxt) (s₀ : Shared) (π₀ : Pi) (R : Post) (Rc : Flow -> Shared -> Prop) : Prop := ∀ ρ' σ' s' π' v x, R v σ' -> Fst X s₀ π₀ s' σ' π' ρ' -> VR X.G s'.heap π' v x -> Rc (.ret x) s'
def StP (X : Cxt) (R : Post) (st : List Stmt) (wp : Nt -> Nt) : Prop :=
 ∀ A E s₀ s π₀ π σ ρ N Rc, Deep (X.n + 1) A -> FC s₀.heap X.env -> wp N ρ σ -> Fst X s₀ π₀ s σ π ρ -> KontN X s₀ π₀ N Rc -> KontR X s₀ π₀ R Rc -> wpAny (model X.prog X.w) A (execs st X.env) Rc E s
section
variable {X : Cxt} {R : Post} {A : Around} {E : Value -> Shared -> Prop} {s₀ s s' : Shared} {π₀ π π' : Pi} {σ σ' : St} {ρ ρ' : Fr} {ee t : PySem.Expr} {pos p2 : Pos} {r : List Stmt} {we : Kt -> Kt} {wk : Nt -> Nt} {i : Nat}
theorem assign_go {R : Flow -> Shared -> Prop} (hs : swapsWith ee (some t) pos.line X.env = pure false) (hw : swappedStores [t] ee X.env = pure none) (ht : (assignEach [t] X.env).map (·.2) = [assign t X.env])
  (h : wpAny (model X.prog X.w) A (eval ee X.env) (fun v s1 => wpAny (model X.prog X.w) A (assign t X.env v) (fun _ s2 => R .next s2) E s1) E s) : wpAny (model X.prog X.w) A (exec (.Assign [t] ee pos) X.env) R E s := by
 show wpAny (model X.prog X.w) A (do
  standAt pos
  if <- swapsWith ee (some t) pos.line X.env then do
   evalThenUse ee X.env fun v => assignAll v ((assignEach [t] X.env).map (·.2))
   pure .next
  else do
   let v <- eval ee X.env
   assignStores X.env v (<- swappedStores [t] ee X.env) ((assignEach [t] X.env).map (·.2))) R E s
 rw [hs, hw, ht]
 refine wpAny_bind (wpAny_standAt (wpAny_bind (wpAny_pure ?_)))
 refine wpAny_bind (wpAny_mono h (fun v s1 h1 => wpAny_bind (wpAny_pure ?_)) fun _ _ x => x)
 exact wpAny_bind (wpAny_mono h1 (fun _ s2 h2 => wpAny_pure h2) fun _ _ x => x)
theorem st_next {st : Stmt} {R : Flow -> Shared -> Prop} (h : wpAny (model X.prog X.w) A (exec st X.env) (fun f s' => f = .next /\ wpAny (model X.prog X.w) A (execs r X.env) R E s') E s) : wpAny (model X.prog X.w) A (execs (st :: r) X.env) R E s :=
 wpAny_execs_cons (wpAny_mono h (fun f s' h' => by rw [h'.1]; exact h'.2) fun _ _ x => x)
theorem st_nil : StP X R [] fun N => N := by
 intro A E s₀ s π₀ π σ ρ N Rc D c q Z kn kr
 exact wpAny_execs_nil (kn ρ σ s π q Z)
theorem st_raise : StP X R r fun _ _ _ => False := by
 intro A E s₀ s π₀ π σ ρ N Rc D c q Z kn kr
 exact q.elim
theorem st_expr (hc : ∀ t l, swapsWith ee t l X.env = pure false) (he : EvP X ee we) (hk : StP X R r wk) : StP X R (.Expr ee pos :: r) fun N ρ σ => we (kN (wk N)) ρ σ [] := by
 intro A E s₀ s π₀ π σ ρ N Rc D c q Z kn kr
 refine st_next ?_
 rw [exec_Expr X.env ee pos (by unfold interactive; rw [Z.fr.kind]; rfl) (hc _ _)]
 exact wpAny_bind (wpAny_standAt (wpAny_bind (he A E s σ π ρ [] _ _ (Z.stand D) q fun v σ1 s1 π1 x q1 I1 S1 z1 r => wpAny_dropValue ⟨rfl, hk A E s₀ s1 π₀ π1 σ1 ρ N Rc D c q1 (Z.step I1 S1 z1) kn kr⟩)))
theorem st_ret (he : EvP X ee we) : StP X R (.Return (some ee) pos :: r) fun _ ρ σ => we (kOne R) ρ σ [] := by
 intro A E s₀ s π₀ π σ ρ N Rc D c q Z kn kr
 exact wpAny_execs_cons (wpAny_Return_some (he A E s σ π ρ [] _ _ (Z.stand D) q fun v σ1 s1 π1 x q1 I1 S1 z1 rx => kr ρ σ1 s1 π1 v x q1 (Z.step I1 S1 z1) rx))
theorem st_set (hc : ∀ t l, swapsWith ee t l X.env = pure false) (ho : okSlot X.loc X.env.scope.names i = true) (he : EvP X ee we) (hk : StP X R r wk) :
  StP X R (.Assign [.Name (Str.ofString (X.loc.getD i "")) p2] ee pos :: r) fun N ρ σ => we (kSet i (wk N)) ρ σ [] := by
 intro A E s₀ s π₀ π σ ρ N Rc D c q Z kn kr
 obtain ⟨hx, hkk⟩ := slot_is ho
 refine st_next (assign_go (hc _ _) rfl rfl (he A E s σ π ρ [] _ _ (Z.stand D) q fun v σ1 s1 π1 y q1 I1 S1 z1 ry => ?_))
 exact wpAny_assign_Name (storeSlot c (Z.step I1 S1 z1) hx hkk ry fun s2 Z2 _ => ⟨rfl, hk A E s₀ s2 π₀ π1 σ1 _ N Rc D c (setK_out q1) Z2 kn kr⟩)
theorem st_setT {is : List Nat} {es : List PySem.Expr} {kk : Nat} (hc : ∀ t l, swapsWith ee t l X.env = pure false) (ht : ∀ ts k p, swappedStores [.Tuple ts k p] ee X.env = pure none) (ho : is.all (okSlot X.loc X.env.scope.names) = true) (he : EvP X ee we) (hk : StP X R r wk) :
  StP X R (.Assign [.Tuple (mkNames (is.map fun i => X.loc.getD i "") es) kk p2] ee pos :: r) fun N ρ σ => we (SetTW is (wk N)) ρ σ [] := by
 intro A E s₀ s π₀ π σ ρ N Rc D c q Z kn kr
 refine st_next (assign_go (hc _ _) (ht _ _ _) rfl (he A E s σ π ρ [] _ _ (Z.stand D) q fun v σ1 s1 π1 y q1 I1 S1 z1 ry => ?_))
 cases q1 with
 | mk q1 => exact storeTupS D.h c ho q1 ry (Z.step I1 S1 z1) fun s2 ρ2 q2 Z2 _ => ⟨rfl, hk A E s₀ s2 π₀ π1 σ1 ρ2 N Rc D c q2 Z2 kn kr⟩
theorem wpAny_rel {vs keep : List Value} {Q : Unit -> Shared -> Prop} (h : Q () s) : wpAny (model X.prog X.w) A (release vs keep) Q E s := fun Γ p hΓ => by rw [Sem.wp_release]; exact h
theorem st_setA (Y : FactsE X) {oo : PySem.Expr} {m : At} {wo : Kt -> Kt} (hm : m < nAt) (hc : ∀ t l, swapsWith ee t l X.env = pure false) (ho : EvP X oo wo) (he : EvP X ee we) (hk : StP X R r wk) :
  StP X R (.Assign [.Attribute oo (Str.ofString m.nm) p2] ee pos :: r) fun N ρ σ => we (wo (SetAW m (wk N))) ρ σ [] := by
 intro A E s₀ s π₀ π σ ρ N Rc D c q Z kn kr
 refine st_next (assign_go (hc _ _) rfl rfl (he A E s σ π ρ [] _ _ (Z.stand D) q fun v σ1 s1 π1 y q1 I1 S1 z1 ry => ?_))
 have Z1 := Z.step I1 S1 z1
 show wpAny (model X.prog X.w) A (do
  let ov <- holding [y] (eval oo X.env)
  standAt p2.atName
  holding [y, ov] (setAttr ov (Str.ofString m.nm) y)
  release [y, ov] []) _ E s1
 refine wpAny_bind (wpAny_holding (ho A E s1 σ1 π1 ρ _ _ _ (Z1.stand D) q1 fun vo σ2 s2 π2 yo q2 I2 S2 z2 ro => ?_))
 refine wpAny_bind (wpAny_standAt (wpAny_bind (wpAny_holding (setAOK Y.cls Y.inK hm q2 I2 ro (ry.step I1 S2) fun σ3 s3 π3 q3 I3 S3 z3 => wpAny_rel ⟨rfl, ?_⟩))))
 exact hk A E s₀ _ π₀ π3 σ3 _ N Rc D c q3 (Z1.step I3 (S2.trans S3) (z2.trans z3)) kn kr
theorem st_setI {oo ii : PySem.Expr} {wo wi : Kt -> Kt} (hc : ∀ t l, swapsWith ee t l X.env = pure false) (ho : EvP X oo wo) (hi : EvP X ii wi) (he : EvP X ee we) (hk : StP X R r wk) :
  StP X R (.Assign [.Subscript oo ii p2] ee pos :: r) fun N ρ σ => we (wo (wi (SetIW (wk N)))) ρ σ [] := by
 intro A E s₀ s π₀ π σ ρ N Rc D c q Z kn kr
 refine st_next (assign_go (hc _ _) rfl rfl (he A E s σ π ρ [] _ _ (Z.stand D) q fun v σ1 s1 π1 y q1 I1 S1 z1 ry => ?_))
 have Z1 := Z.step I1 S1 z1
 show wpAny (model X.prog X.w) A (do
  let ov <- holding [y] (eval oo X.env)
  let iv <- holding [y, ov] (eval ii X.env)
  standAt p2
  holding [y, ov, iv] (setItem ov iv y)
  release (match (generalizing := false) ii with | .Slice _ _ none _ => [iv, y, ov] | _ => [y, ov, iv]) []) _ E s1
 refine wpAny_bind (wpAny_holding (ho A E s1 σ1 π1 ρ _ _ _ (Z1.stand D) q1 fun vo σ2 s2 π2 yo q2 I2 S2 z2 ro => ?_))
 have Z2 := Z1.step I2 S2 z2
 refine wpAny_bind (wpAny_holding (hi A E s2 σ2 π2 ρ _ _ _ (Z2.stand D) q2 fun vi σ3 s3 π3 yi q3 I3 S3 z3 ri => ?_))
 refine wpAny_bind (wpAny_standAt (wpAny_bind (wpAny_holding (setIOK D.roomy q3 I3 ⟨ri, ro.step I2 S3⟩ (ry.step I1 (S2.trans S3)) fun σ4 s4 π4 q4 I4 S4 z4 => wpAny_rel ⟨rfl, ?_⟩))))
 exact hk A E s₀ _ π₀ π4 σ4 _ N Rc D c q4 (Z2.step I4 (S3.trans S4) (z3.trans z4)) kn kr
theorem st_aug (ho : okSlot X.loc X.env.scope.names i = true) (he : EvP X ee we) (hk : StP X R r wk) :
  StP X R (.AugAssign (.Name (Str.ofString (X.loc.getD i "")) p2) .Add ee pos :: r) fun N ρ σ => getS ρ[i]? fun old => we (AugW i (wk N)) ρ σ [old] := by
 intro A E s₀ s π₀ π σ ρ N Rc D c q Z kn kr
 obtain ⟨hx, hkk⟩ := slot_is ho
 cases e : ρ[i]? with
 | none => rw [e] at q; exact q.elim
 | some o =>
  rw [e] at q
  cases o with
  | none => exact q.elim
  | some old =>
   refine st_next (wpAny_AugAssign_Name ?_)
   have go : ∀ y, VR X.G s.heap π old y -> wpAny (model X.prog X.w) A (eval ee X.env) (fun z s1 => wpAny (model X.prog X.w) A (inplaceOp .Add y z) (fun v s2 => wpAny (model X.prog X.w) A (storeName X.env (Str.ofString (X.loc.getD i "")) v) (fun _ s3 => Flow.next = .next /\ wpAny (model X.prog X.w) A (execs r X.env) Rc E s3) E s2) E s1) E s := by
    intro y ry
    refine he A E s σ π ρ [old] _ _ (Z.stand D) q fun v σ1 s1 π1 z q1 I1 S1 z1 rz => ?_
    cases q1 with
    | mk q1 =>
     obtain ⟨t, rfl⟩ := ry.int_inv
     obtain ⟨u, rfl⟩ := rz.int_inv
     refine AutoIntOps.iadd_0 ?_
     have Z1 := Z.step (s' := { s1 with toks := s1.toks + 1 }) I1 S1 z1
     exact storeSlot c Z1 hx hkk (.int _ _) fun s2 Z2 _ => ⟨rfl, hk A E s₀ s2 π₀ π1 σ1 _ N Rc D c (setK_out q1) Z2 kn kr⟩
   cases Z.fr.sees.loc i _ old hx e (hkk.imp id .inl) with
   | loc k a n e r => exact wpAny_loadName_local Z.fr.kind k n e (go _ r)
   | cell k l a n r =>
    rcases k with k | k
    ·exact wpAny_loadName_cell Z.fr.kind k l n (go _ r)
    ·exact absurd k (Z.fr.free _ _ hx)
theorem st_ite {cc : PySem.Expr} {aa bb : List Stmt} {wc : Kt -> Kt} {wa wb : Nt -> Nt} (hc : TrP X cc wc) (ha : StP X R aa wa) (hb : StP X R bb wb) (hk : StP X R r wk) :
  StP X R (.If cc aa bb pos :: r) fun N ρ σ => wc (IfW (kN (wa (wk N))) (kN (wb (wk N)))) ρ σ [] := by
 intro A E s₀ s π₀ π σ ρ N Rc D c q Z kn kr
 refine wpAny_execs_cons (wpAny_If (hc A E s σ π ρ [] _ (fun t σ1 => (bif t then kN (wa (wk N)) else kN (wb (wk N))) ρ σ1 []) _ (Z.stand D) q (fun v σ1 q1 => q1.out) fun t σ1 s1 π1 q1 I1 S1 z1 => ?_))
 have Z1 := Z.step I1 S1 z1
 cases t with
 | true => exact ha A E s₀ s1 π₀ π1 σ1 ρ _ _ D c q1 Z1 (fun ρ' σ' s' π' hq Z' => hk A E s₀ s' π₀ π' σ' ρ' N Rc D c hq Z' kn kr) fun ρ' σ' s' π' v x hq Z' rx => kr ρ' σ' s' π' v x hq Z' rx
 | false => exact hb A E s₀ s1 π₀ π1 σ1 ρ _ _ D c q1 Z1 (fun ρ' σ' s' π' hq Z' => hk A E s₀ s' π₀ π' σ' ρ' N Rc D c hq Z' kn kr) fun ρ' σ' s' π' v x hq Z' rx => kr ρ' σ' s' π' v x hq Z' rx
theorem st_while {cc : PySem.Expr} {bb : List Stmt} {wc : Kt -> Kt} {wb : Nt -> Nt} (hc : TrP X cc wc) (hb : StP X R bb wb) (hk : StP X R r wk) :
  StP X R (.While cc bb [] pos :: r) fun N => whileW (fun K ρ σ => wc K ρ σ []) wb (wk N) := by
 intro A E s₀ s π₀ π σ ρ N Rc D c q Z kn kr
 obtain ⟨J, ⟨n0, h0⟩, hJ⟩ := q
 refine wpAny_execs_cons (wpAny_While (codeAny_whileLoop (fun m s' => ∃ ρ' σ' π', J m ρ' σ' /\ Fst X s₀ π₀ s' σ' π' ρ') ?_ n0 ⟨ρ, σ, π, h0, Z⟩))
 rintro m s' ⟨ρ', σ', π', hj, Z'⟩
 refine hc A _ s' σ' π' ρ' [] _ (fun t σ1 => (bif t then kN (wb fun ρ σ => ∃ m', m' < m /\ J m' ρ σ) else kN (wk N)) ρ' σ1 []) _ (Z'.stand D) (hJ m ρ' σ' hj) (fun v σ1 q1 => q1.out) fun t σ1 s1 π1 q1 I1 S1 z1 => ?_
 have Z1 := Z'.step I1 S1 z1
 cases t with
 | true => exact hb A _ s₀ s1 π₀ π1 σ1 ρ' _ _ D c q1 Z1 (fun ρ2 σ2 s2 π2 hq Z2 => let ⟨m', hm, hj'⟩ := hq; ⟨m', hm, ρ2, σ2, π2, hj', Z2⟩) fun ρ2 σ2 s2 π2 v x hq Z2 rx => kr ρ2 σ2 s2 π2 v x hq Z2 rx
 | false => exact wpAny_execs_nil (hk A E s₀ s1 π₀ π1 σ1 ρ' N Rc D c q1 Z1 kn kr)
end
inductive FI (X : Cxt) (s₀ : Shared) (π₀ : Pi) (It : Addr) (l : List V) (ℓ : Option Nat) (W : List V -> Nt) (nn : Nat) (s' : Shared) : Prop
 | mk {i : Nat} {σ' : St} {π' : Pi} {ρ' : Fr} : nn + i = l.length + 1 -> i ≤ l.length -> W (l.drop i) ρ' σ' -> Fst X s₀ π₀ s' σ' π' ρ' -> IT X.G s'.heap π' It l ℓ i -> It ∉ addrs π' -> FI X s₀ π₀ It l ℓ W nn s'
noncomputable def mkFt (loc : List String) (tup : Bool) (is : List Nat) (es : List PySem.Expr) (kk : Nat) (pos : Pos) : PySem.Expr := bif tup then .Tuple (mkNames (is.map fun i => loc.getD i "") es) kk pos else .Name (Str.ofString (loc.getD (is.headD 0) "")) pos
section
variable {X : Cxt} {R : Post} {A : Around} {s₀ s : Shared} {π₀ π : Pi} {σ : St} {ρ : Fr} {itr : PySem.Expr} {pos p2 : Pos} {bb r : List Stmt} {wi : Kt -> Kt} {wb wk : Nt -> Nt} {is : List Nat} {tup : Bool} {es : List PySem.Expr} {kk : Nat}
theorem storeFt {E : Value -> Shared -> Prop} {v : V} {y : Value} {g : Fr -> Prop} {Q : Unit -> Shared -> Prop} (hA : A.handled = none) (c : FC s₀.heap X.env) (ho : is.all (okSlot X.loc X.env.scope.names) = true) (h1 : tup = true ∨ ∃ i, is = [i]) (ry : VR X.G s.heap π v y) (Z : Fst X s₀ π₀ s σ π ρ)
  (q : ForTg v (fun vs => setKs is vs ρ g) tup) (h : ∀ s' ρ', g ρ' -> Fst X s₀ π₀ s' σ π ρ' -> Lift X s s' π -> Q () s') :
  wpAny (model X.prog X.w) A (assign (mkFt X.loc tup is es kk pos) X.env y) Q E s /\ Owns (mkFt X.loc tup is es kk pos) y := by
 cases tup with
 | true =>
  cases v with
  | tup l =>
   refine ⟨storeTupS hA c ho q ry Z h, ?_⟩
   induction ry.tup_is with
   | mk _ _ _ => exact .inr ⟨_, _, _, _, rfl, rfl⟩
  | _ => exact q.elim
 | false =>
  obtain ⟨i, rfl⟩ := h1.resolve_left Bool.false_ne_true
  obtain ⟨hx, hk⟩ := slot_is (and_t (show (okSlot X.loc X.env.scope.names i && true) = true from ho)).1
  refine ⟨wpAny_assign_Name (storeSlot c Z hx hk ry fun s2 Z2 D => ?_), .inl fun _ => rfl⟩
  obtain ⟨L, hL, D⟩ := D
  exact h s2 _ (setK_out q) Z2 fun It l ℓ i hn x => x.side D fun e => hn (e ▸ hL)
theorem st_for (Y : FactsE X) (hlit : ∀ x, foldedSetIterable itr X.env x = pure x) (ho : is.all (okSlot X.loc X.env.scope.names) = true) (h1 : tup = true ∨ ∃ i, is = [i]) (hi : EvP X itr wi) (hb : StP X R bb wb) (hk : StP X R r wk) :
  StP X R (.For (mkFt X.loc tup is es kk p2) itr bb [] pos :: r) fun N ρ σ => wi (ForW is tup wb (wk N)) ρ σ [] := by
 intro A E s₀ s π₀ π σ ρ N Rc D c q Z kn kr
 refine wpAny_execs_cons (wpAny_For (hi A E s σ π ρ [] _ _ (Z.stand D) q fun v σ1 s1 π1 x q1 I1 S1 z1 rx => ?_) hlit)
 have Z1 := Z.step I1 S1 z1
 cases q1 with
 | @mk _ l _ ℓ hsrc hw =>
 refine iter_new hsrc I1 rx fun o S2 I2 it2 => ?_
 have nI := none_size s1.heap
 have ntI := Z1.alive nI
 have bI := I1.none_base nI
 have lI : s1.heap.objs.size ≠ X.G.lst := fun e => by
  obtain ⟨o, z⟩ := Y.tb.lst
  rw [e, z] at bI; cases bI
 have oI : s₀.heap.get? s1.heap.objs.size = none := Z1.S.older nI
 have Z2 : Fst X s₀ π₀ { s1 with heap := s1.heap.push o } σ1 π1 ρ := Z1.step (s' := { s1 with heap := s1.heap.push o }) I2 S2 ⟨rfl, rfl⟩
 refine codeAny_forLoop_any (FI X s₀ π₀ s1.heap.objs.size l ℓ fun xs => forW (fun σ' => live σ' l ℓ) tup is wb xs (wk N)) ?_ (l.length + 1) (.mk (i := 0) rfl (Nat.zero_le _) hw Z2 it2 (I1.none_addr nI))
 clear it2 Z2 S2 I2 hw
 intro nn s' J
 induction J with
 | @mk i σ' π' ρ' hnn hil hfw Z' it' na' =>
 have O : ItOK X.G X.g₀ π' s1.heap.objs.size := ⟨na', bI, lI⟩
 cases hdr : l.drop i with
 | nil =>
  rw [hdr] at hfw
  have hi' : i = l.length := Nat.le_antisymm hil (List.drop_eq_nil_iff.mp hdr)
  refine next_end D.h it' hi' hfw.1 Z'.J O fun h' tk sd => wpAny_execs_nil ?_
  exact hk A E s₀ _ π₀ π' σ' ρ' N Rc D c hfw.2 (Z'.side (s' := { s' with heap := h', toks := tk }) sd ⟨rfl, rfl⟩ oI (Z'.fr.side sd ntI)) kn kr
 | cons v rr =>
  rw [hdr] at hfw
  obtain ⟨hvi, hr, hlt⟩ := drop_cons hdr
  refine next_item it' hvi hfw.1 Z'.J O fun y h' tk ry sd it2 => ?_
  have Z3 := Z'.side (s' := { s' with heap := h', toks := tk }) sd ⟨rfl, rfl⟩ oI (Z'.fr.side sd ntI)
  have st := fun E Q => storeFt (es := es) (kk := kk) (pos := p2) (E := E) (Q := Q) D.h c ho h1 (ry.side sd) Z3 hfw.2
  refine letOwned it2 (st E (fun _ _ => True) fun _ _ _ _ _ => trivial).2 ((st _ _ fun s4 ρ1 hbody Z4 lift => ?_).1)
  have it4 := lift _ l ℓ (i + 1) ntI it2
  obtain ⟨gc, gx⟩ := Z4.mkGhost
  refine hb A _ (ghost X s4) s4 π' π' σ' ρ1 _ _ D gc hbody gx (fun ρ2 σ2 s2 π2 hq Y2 => ?_) fun ρ2 σ2 s2 π2 u x hq Y2 rx => kr ρ2 σ2 s2 π2 u x hq (Z4.unghost c Y2) rx
  obtain ⟨it5, na5⟩ := Z4.iter Y2 ntI na' it4
  exact ⟨l.length - i, (turn_lt hnn hlt).1, .mk (turn_lt hnn hlt).2 hlt (hr ▸ hq) (Z4.unghost c Y2) it5 na5⟩
end
section
variable {X : Cxt} {R : Post} {el itr c : PySem.Expr} {sc : Scope} {cp pos p2 tp : Pos} {k kk i : Nat} {cv : List String} {b : Bool} {we wc : List V -> Kt -> Kt} {wi : Kt -> Kt} {ps : List PySem.Expr} {r : List Stmt} {wk : Nt -> Nt}
theorem st_setC (Y : FactsE X) (ho : okSlot X.loc X.env.scope.names i = true) (T : CompTxt X sc k cv itr) (hi : EvP X itr wi) (he : ∀ cl C κ, EvP (X.sub sc cl C cv κ) el (we κ)) (hc : b = false -> ∀ cl C κ, TrP (X.sub sc cl C cv κ) c (wc κ)) (hk : StP X R r wk) :
  StP X R (.Assign [.Name (Str.ofString (X.loc.getD i "")) p2] (.ListComp el [⟨mkTg k cv ps kk tp, itr, bif b then [] else [c], 0⟩] sc cp) pos :: r) fun N ρ σ => wi (kComp k b wc we (kSet i (wk N))) ρ σ [] := by
 intro A E s₀ s π₀ π σ ρ N Rc D fc q Z kn kr
 obtain ⟨hx, hkk⟩ := slot_is ho
 refine st_next ?_
 obtain ⟨u, hu⟩ : ∃ u, swapsWith (.ListComp el [⟨mkTg k cv ps kk tp, itr, bif b then [] else [c], 0⟩] sc cp) (some (.Name (Str.ofString (X.loc.getD i "")) p2)) pos.line X.env = pure u := ⟨_, rfl⟩
 cases u with
 | false =>
  refine assign_go hu rfl rfl (ev_comp Y T hi he hc A E s σ π ρ [] _ _ (Z.stand D) q fun v σ1 s1 π1 y q1 I1 S1 z1 ry => ?_)
  exact wpAny_assign_Name (storeSlot fc (Z.step I1 S1 z1) hx hkk ry fun s2 Z2 _ => ⟨rfl, hk A E s₀ s2 π₀ π1 σ1 _ N Rc D fc (setK_out q1) Z2 kn kr⟩)
 | true =>
  show wpAny (model X.prog X.w) A (do
   standAt pos
   if <- swapsWith (.ListComp el [⟨mkTg k cv ps kk tp, itr, bif b then [] else [c], 0⟩] sc cp) (some (.Name (Str.ofString (X.loc.getD i "")) p2)) pos.line X.env then do
    let _ <- (do let _ <- comprehension (.ListComp el [⟨mkTg k cv ps kk tp, itr, bif b then [] else [c], 0⟩] sc cp) sc X.env (firstIterPos [⟨mkTg k cv ps kk tp, itr, bif b then [] else [c], 0⟩] cp) (newList []) false (eval itr X.env) (some fun v => assign (.Name (Str.ofString (X.loc.getD i "")) p2) X.env v) : Sem Unit)
    pure .next
   else do
    let v <- eval (.ListComp el [⟨mkTg k cv ps kk tp, itr, bif b then [] else [c], 0⟩] sc cp) X.env
    assignStores X.env v (<- swappedStores [.Name (Str.ofString (X.loc.getD i "")) p2] (.ListComp el [⟨mkTg k cv ps kk tp, itr, bif b then [] else [c], 0⟩] sc cp) X.env) ((assignEach [.Name (Str.ofString (X.loc.getD i "")) p2] X.env).map (·.2))) _ E s
  rw [hu]
  refine wpAny_bind (wpAny_standAt (wpAny_bind (wpAny_pure (wpAny_bind (wpAny_bind ?_)))))
  refine comp_core Y T hi he hc (Z.stand D) q fun v σ1 s1 π1 y C m q1 I1 S1 z1 ry O nC => ?_
  have Z1 := Z.step I1 S1 z1
  have nt : ¬ Touch X.env C := Z.alive nC
  show wpAny _ _ _ _ _ _
  refine wpAny_assign_Name (storeSlot fc Z1 hx hkk ry fun s2 Z2 sd => ?_)
  obtain ⟨L, hL, sd⟩ := sd
  have O2 := O.side sd fun e => nt (e ▸ hL)
  refine ⟨m, O2.ns, fun h' hs => wpAny_pure (wpAny_pure ⟨rfl, ?_⟩)⟩
  have sdC := O2.turn hs
  exact hk A E s₀ _ π₀ π1 σ1 _ N Rc D fc (setK_out q1) (Z2.side (s' := { s2 with heap := h' }) sdC ⟨rfl, rfl⟩ (Z.S.older nC) (Z2.fr.side sdC nt)) kn kr
end
abbrev Sp := List PySem.Expr × List Stmt × List Stmt
noncomputable def sp (s : Stmt) : Sp := Stmt.casesOn (motive_2 := fun _ => Sp) s (fun _ _ _ _ _ _ _ _ _ _ => ([], [], [])) (fun _ _ _ _ _ _ _ _ _ _ => ([], [], [])) (fun _ _ _ _ _ _ _ _ _ _ _ => ([], [], []))
 (fun v _ => (v.toList, [], [])) (fun _ _ => ([], [], [])) (fun t v _ => (t ++ [v], [], [])) (fun _ _ _ _ _ _ _ => ([], [], [])) (fun t _ v _ => ([t, v], [], [])) (fun _ _ _ _ _ => ([], [], [])) (fun t i a b _ => ([t, i], a, b)) (fun _ _ _ _ _ => ([], [], []))
 (fun t a b _ => ([t], a, b)) (fun t a b _ => ([t], a, b)) (fun _ _ _ => ([], [], [])) (fun _ _ _ => ([], [], [])) (fun _ _ _ => ([], [], [])) (fun _ _ _ => ([], [], [])) (fun _ _ _ _ _ => ([], [], [])) (fun _ _ _ _ _ => ([], [], [])) (fun _ _ _ => ([], [], [])) (fun _ _ => ([], [], [])) (fun _ _ _ _ => ([], [], []))
 (fun _ _ => ([], [], [])) (fun _ _ => ([], [], [])) (fun v _ => ([v], [], [])) (fun _ => ([], [], [])) (fun _ => ([], [], [])) (fun _ => ([], [], []))
noncomputable def hd (ss : List Stmt) : Stmt := ss.headD default
noncomputable def sx (ss : List Stmt) (i : Nat) : PySem.Expr := (sp (hd ss)).1.getD i default
noncomputable def nmI (loc : List String) (i : Nat) (p : Pos) : PySem.Expr := .Name (Str.ofString (loc.getD i "")) p
noncomputable def mkS (loc : List String) (s : S) : List Stmt -> List Stmt := S.rec (motive := fun _ => List Stmt -> List Stmt)
 (fun _ => [])
 (fun e _ k ss => .Expr ((mk loc e []).1 (sx ss 0)) (hd ss).pos :: k ss.tail)
 (fun e _ _ ss => .Return (some ((mk loc e []).1 (sx ss 0))) (hd ss).pos :: ss.tail)
 (fun _ _ ss => ss)
 (fun i e _ k ss => .Assign [nmI loc i (sx ss 0).pos] ((mk loc e []).1 (sx ss 1)) (hd ss).pos :: k ss.tail)
 (fun is e _ k ss => .Assign [.Tuple (mkNames (is.map fun i => loc.getD i "") (pt (sx ss 0)).1) (pt (sx ss 0)).2.2.1 (sx ss 0).pos] ((mk loc e []).1 (sx ss 1)) (hd ss).pos :: k ss.tail)
 (fun o n e _ k ss => .Assign [.Attribute ((mk loc o []).1 (kid (sx ss 0) 0)) (Str.ofString n.nm) (sx ss 0).pos] ((mk loc e []).1 (sx ss 1)) (hd ss).pos :: k ss.tail)
 (fun o i e _ k ss => .Assign [.Subscript ((mk loc o []).1 (kid (sx ss 0) 0)) ((mk loc i []).1 (kid (sx ss 0) 1)) (sx ss 0).pos] ((mk loc e []).1 (sx ss 1)) (hd ss).pos :: k ss.tail)
 (fun i _ e _ k ss => .AugAssign (nmI loc i (sx ss 0).pos) .Add ((mk loc e []).1 (sx ss 1)) (hd ss).pos :: k ss.tail)
 (fun c _ _ _ a b k ss => .If ((mk loc c []).1 (sx ss 0)) (a (sp (hd ss)).2.1) (b (sp (hd ss)).2.2) (hd ss).pos :: k ss.tail)
 (fun is tup it _ _ b k ss => .For (mkFt loc tup is (pt (sx ss 0)).1 (pt (sx ss 0)).2.2.1 (sx ss 0).pos) ((mk loc it []).1 (sx ss 1)) (b (sp (hd ss)).2.1) [] (hd ss).pos :: k ss.tail)
 (fun c _ _ b k ss => .While ((mk loc c []).1 (sx ss 0)) (b (sp (hd ss)).2.1) [] (hd ss).pos :: k ss.tail)
 s
noncomputable def okS (loc : List String) (nm : Nm) (s : S) : List Stmt -> Bool := S.rec (motive := fun _ => List Stmt -> Bool)
 (fun _ => true)
 (fun e _ k ss => (!Nat.beq (form e) 3 && (ok loc e nm []).1 (sx ss 0)) && k ss.tail)
 (fun e _ _ ss => (ok loc e nm []).1 (sx ss 0))
 (fun _ _ _ => true)
 (fun i e _ k ss => (okSlot loc nm i && (ok loc e nm []).1 (sx ss 1)) && k ss.tail)
 (fun is e _ k ss => ((!Nat.beq (form e) 3 && !Nat.beq (form e) 4) && (is.all (okSlot loc nm) && (ok loc e nm []).1 (sx ss 1))) && k ss.tail)
 (fun o n e _ k ss => ((Nat.blt n nAt && !Nat.beq (form e) 3) && ((ok loc o nm []).1 (kid (sx ss 0) 0) && (ok loc e nm []).1 (sx ss 1))) && k ss.tail)
 (fun o i e _ k ss => ((!Nat.beq (form e) 3 && (ok loc o nm []).1 (kid (sx ss 0) 0)) && ((ok loc i nm []).1 (kid (sx ss 0) 1) && (ok loc e nm []).1 (sx ss 1))) && k ss.tail)
 (fun i _ e _ k ss => (okSlot loc nm i && (ok loc e nm []).1 (sx ss 1)) && k ss.tail)
 (fun c _ _ _ a b k ss => ((ok loc c nm []).1 (sx ss 0) && (a (sp (hd ss)).2.1 && b (sp (hd ss)).2.2)) && k ss.tail)
 (fun is tup it _ _ b k ss => (((tup || Nat.beq is.length 1) && is.all (okSlot loc nm)) && ((ok loc it nm []).1 (sx ss 1) && b (sp (hd ss)).2.1)) && k ss.tail)
 (fun c _ _ b k ss => ((ok loc c nm []).1 (sx ss 0) && b (sp (hd ss)).2.1) && k ss.tail)
 s
theorem form3 {e : E} (h : Nat.beq (form e) 3 = true) : ∃ elt it cond k cv, e = .comp elt it cond k cv := by
 cases e with
 | comp elt it cond k cv => exact ⟨elt, it, cond, k, cv, rfl⟩
 | gv v x =>
  have h : Nat.beq (bif callable v then 2 else 0) 3 = true := h
  cases e : callable v <;> rw [e] at h <;> exact absurd h Bool.false_ne_true
 | _ => exact absurd h Bool.false_ne_true
noncomputable abbrev Cxt.top (X : Cxt) : Cxt := ⟨X.prog, X.w, X.K, X.G, X.g₀, X.n, X.F, X.env, X.loc, [], []⟩
theorem stS {X : Cxt} {R : Post} (Y : FactsE X.top) (hk : X.env.scope.kind = .function) (s : S) : ∀ ss, okS X.loc X.env.scope.names s ss = true -> StP X.top R (mkS X.loc s ss) (wpS X.F R s) := by
 have Z := fun e => sndE e X.top Y hk
 induction s with
 | nil => exact fun ss h => st_nil
 | expr e k ih =>
  intro ss h
  obtain ⟨⟨h1, h2⟩, h3⟩ : ((!Nat.beq (form e) 3) = true /\ okE X.top e (sx ss 0)) /\ okS X.loc X.env.scope.names k ss.tail = true := (and_t h).imp and_t id
  exact st_expr (X := X.top) (pos := (hd ss).pos) (((Z e).fx _).sw (ne_t h1)) ((Z e).ev _ h2).1 (ih _ h3)
 | ret e k ih => exact fun ss h => st_ret (X := X.top) (pos := (hd ss).pos) ((Z e).ev _ h).1
 | raise k ih => exact fun ss h => st_raise
 | set i e k ih =>
  intro ss h
  obtain ⟨⟨h1, h2⟩, h3⟩ : (okSlot X.loc X.env.scope.names i = true /\ okE X.top e (sx ss 1)) /\ okS X.loc X.env.scope.names k ss.tail = true := (and_t h).imp and_t id
  cases h4 : Nat.beq (form e) 3 with
  | true =>
   obtain ⟨elt, it, cond, kk, cv, rfl⟩ := form3 h4
   obtain ⟨T, g2, g3, g4⟩ := comp_parts Y hk (sndE elt) (sndE it) (sndE cond) h2
   exact st_setC (X := X.top) (p2 := (sx ss 0).pos) (pos := (hd ss).pos) (cp := (sx ss 1).pos) (el := (mk X.loc elt cv).1 (kid (sx ss 1) 0)) (kk := (pt (cg (sx ss 1)).target).2.2.1) (ps := (pt (cg (sx ss 1)).target).1) (tp := (cg (sx ss 1)).target.pos) (b := isNilE cond) (wc := wpE X.F cond) (we := wpE X.F elt) (c := (mk X.loc cond cv).1 ((cg (sx ss 1)).ifs.headD (sx ss 1))) Y h1 T g2 g3 g4 (ih _ h3)
  | false => exact st_set (X := X.top) (p2 := (sx ss 0).pos) (pos := (hd ss).pos) (((Z e).fx _).sw (ne_t (by rw [h4]; rfl))) h1 ((Z e).ev _ h2).1 (ih _ h3)
 | setT is e k ih =>
  intro ss h
  obtain ⟨⟨⟨h1, h4⟩, h5, h2⟩, h3⟩ : (((!Nat.beq (form e) 3) = true /\ (!Nat.beq (form e) 4) = true) /\ (is.all (okSlot X.loc X.env.scope.names) = true /\ okE X.top e (sx ss 1))) /\ okS X.loc X.env.scope.names k ss.tail = true := (and_t h).imp (fun h => (and_t h).imp and_t and_t) id
  exact st_setT (X := X.top) (p2 := (sx ss 0).pos) (pos := (hd ss).pos) (es := (pt (sx ss 0)).1) (kk := (pt (sx ss 0)).2.2.1) (((Z e).fx _).sw (ne_t h1)) (((Z e).fx _).ns (ne_t h4)) h5 ((Z e).ev _ h2).1 (ih _ h3)
 | setA o n e k ih =>
  intro ss h
  obtain ⟨⟨⟨h1, h4⟩, h5, h2⟩, h3⟩ : ((Nat.blt n nAt = true /\ (!Nat.beq (form e) 3) = true) /\ (okE X.top o (kid (sx ss 0) 0) /\ okE X.top e (sx ss 1))) /\ okS X.loc X.env.scope.names k ss.tail = true := (and_t h).imp (fun h => (and_t h).imp and_t and_t) id
  exact st_setA (X := X.top) (p2 := (sx ss 0).pos) (pos := (hd ss).pos) Y (Nat.le_of_ble_eq_true h1) (((Z e).fx _).sw (ne_t h4)) ((Z o).ev _ h5).1 ((Z e).ev _ h2).1 (ih _ h3)
 | setI o i e k ih =>
  intro ss h
  obtain ⟨⟨⟨h1, h4⟩, h5, h2⟩, h3⟩ : (((!Nat.beq (form e) 3) = true /\ okE X.top o (kid (sx ss 0) 0)) /\ (okE X.top i (kid (sx ss 0) 1) /\ okE X.top e (sx ss 1))) /\ okS X.loc X.env.scope.names k ss.tail = true := (and_t h).imp (fun h => (and_t h).imp and_t and_t) id
  exact st_setI (X := X.top) (p2 := (sx ss 0).pos) (pos := (hd ss).pos) (((Z e).fx _).sw (ne_t h1)) ((Z o).ev _ h4).1 ((Z i).ev _ h5).1 ((Z e).ev _ h2).1 (ih _ h3)
 | aug i op e k ih =>
  intro ss h
  obtain ⟨⟨h1, h2⟩, h3⟩ : (okSlot X.loc X.env.scope.names i = true /\ okE X.top e (sx ss 1)) /\ okS X.loc X.env.scope.names k ss.tail = true := (and_t h).imp and_t id
  exact st_aug (X := X.top) (p2 := (sx ss 0).pos) (pos := (hd ss).pos) h1 ((Z e).ev _ h2).1 (ih _ h3)
 | ite c a b k ia ib ih =>
  intro ss h
  obtain ⟨⟨h1, h2, h4⟩, h3⟩ : (okE X.top c (sx ss 0) /\ (okS X.loc X.env.scope.names a (sp (hd ss)).2.1 = true /\ okS X.loc X.env.scope.names b (sp (hd ss)).2.2 = true)) /\ okS X.loc X.env.scope.names k ss.tail = true := (and_t h).imp (fun h => (and_t h).imp id and_t) id
  exact st_ite (X := X.top) (pos := (hd ss).pos) ((Z c).ev _ h1).2 (ia _ h2) (ib _ h4) (ih _ h3)
 | for' is tup it body k ib ih =>
  intro ss h
  obtain ⟨⟨⟨h1, h5⟩, h2, h4⟩, h3⟩ : (((tup || Nat.beq is.length 1) = true /\ is.all (okSlot X.loc X.env.scope.names) = true) /\ (okE X.top it (sx ss 1) /\ okS X.loc X.env.scope.names body (sp (hd ss)).2.1 = true)) /\ okS X.loc X.env.scope.names k ss.tail = true := (and_t h).imp (fun h => (and_t h).imp and_t and_t) id
  have h1 : tup = true ∨ ∃ i, is = [i] := ((Bool.or_eq_true _ _).mp h1).imp id fun h => List.length_eq_one_iff.mp (Nat.eq_of_beq_eq_true h)
  exact st_for (X := X.top) (p2 := (sx ss 0).pos) (pos := (hd ss).pos) (es := (pt (sx ss 0)).1) (kk := (pt (sx ss 0)).2.2.1) Y ((Z it).fx _).fo h5 h1 ((Z it).ev _ h2).1 (ib _ h4) (ih _ h3)
 | «while» c body k ib ih =>
  intro ss h
  obtain ⟨⟨h1, h2⟩, h3⟩ : (okE X.top c (sx ss 0) /\ okS X.loc X.env.scope.names body (sp (hd ss)).2.1 = true) /\ okS X.loc X.env.scope.names k ss.tail = true := (and_t h).imp and_t id
  exact st_while (X := X.top) (pos := (hd ss).pos) ((Z c).ev _ h1).2 (ib _ h2) (ih _ h3)
theorem cells_some {x : Str} (names : List (Str × NameKind)) : ∀ {n : Nat} {acc : List (Str × Addr)}, ((x, NameKind.cell) ∈ names ∨ (acc.lookup x).isSome = true) -> ((cellsFrom n names acc).lookup x).isSome = true := by
 induction names with
 | nil => exact fun h => h.resolve_left nofun
 | cons p r ih =>
  obtain ⟨y, k⟩ := p
  intro n acc h
  have up : ∀ {z : Addr}, (acc.lookup x).isSome = true -> (((y, z) :: acc).lookup x).isSome = true := fun h => by
   rw [List.lookup_cons]; split
   ·rfl
   ·exact h
  unfold cellsFrom
  split
  ·rcases h with h | h
   ·rcases List.mem_cons.mp h with h | h
    ·cases h; exact ih (.inr (by rw [List.lookup_cons_self]; rfl))
    ·exact ih (.inl h)
   ·exact ih (.inr (up h))
  ·rename_i hk
   rcases h with h | h
   ·rcases List.mem_cons.mp h with h | h
    ·cases h; exact (hk rfl).elim
    ·exact ih (.inl h)
   ·exact ih (.inr h)
theorem cells_of {x : Str} {c : Addr} (names : List (Str × NameKind)) : ∀ {n : Nat} {acc : List (Str × Addr)}, (cellsFrom n names acc).lookup x = some c -> (x, NameKind.cell) ∈ names ∨ acc.lookup x = some c := by
 induction names with
 | nil => exact fun h => .inr h
 | cons p r ih =>
  obtain ⟨y, k⟩ := p
  intro n acc h
  unfold cellsFrom at h
  split at h
  ·rename_i hk
   rcases ih h with h | h
   ·exact .inl (.tail _ h)
   ·rw [List.lookup_cons] at h
    split at h
    ·rename_i e
     rw [beq_iff_eq.mp e, show k = .cell by cases k <;> first | rfl | exact absurd hk Bool.false_ne_true]; exact .inl (.head _)
    ·exact .inr h
  ·exact (ih h).imp (.tail _) id
theorem bindL_keep {k : Str -> Option NameKind} {y : Str} {nm : List Str} : ∀ {vs : List Value} {m : Str -> Option Value}, y ∉ nm -> bindL k (nm.zip vs) m y = m y := by
 induction nm with
 | nil => exact fun _ => rfl
 | cons z nm ih =>
  intro vs m hn
  cases vs with
  | nil => rfl
  | cons u vs =>
   rw [List.zip_cons_cons]
   unfold bindL
   rw [ih fun q => hn (.tail _ q)]
   split
   ·exact if_neg fun e : y = z => hn (e ▸ .head _)
   ·rfl
theorem bindL_at {k : Str -> Option NameKind} {x : Str} {v : Value} (hk : k x = some .local) {nm : List Str} : ∀ {vs : List Value} {m : Str -> Option Value}, nm.Nodup -> ∀ (i : Nat), nm[i]? = some x -> vs[i]? = some v -> bindL k (nm.zip vs) m x = some v := by
 induction nm with
 | nil => exact fun _ _ h => nomatch h
 | cons y nm ih =>
  intro vs m nd i hx hv
  rw [List.nodup_cons] at nd
  cases vs with
  | nil => cases hv
  | cons u vs =>
   rw [List.zip_cons_cons]
   unfold bindL
   cases i with
   | zero => cases hx; cases hv; rw [if_pos hk, bindL_keep nd.1, if_pos rfl]
   | succ i => exact ih nd.2 i hx hv
theorem bindC_eq {k : Str -> Option NameKind} : ∀ (l : List (Str × Value)) {m : Str -> Option Value}, bindC k l m = bindL (fun n => if k n = some .local then none else some .local) l m := by
 intro l
 induction l with
 | nil => exact fun {m} => rfl
 | cons p r ih =>
  intro m
  obtain ⟨y, u⟩ := p
  unfold bindC bindL
  rw [ih]
  by_cases e : k y = some .local
  ·rw [if_pos e, if_pos e, if_neg nofun]
  ·rw [if_neg e, if_neg e, if_pos rfl]
theorem bindC_at {k : Str -> Option NameKind} {x : Str} {v : Value} (hk : k x ≠ some .local) {nm : List Str} {vs : List Value} {m : Str -> Option Value} (nd : nm.Nodup) (i : Nat) (hx : nm[i]? = some x) (hv : vs[i]? = some v) : bindC k (nm.zip vs) m x = some v := by
 rw [bindC_eq]
 exact bindL_at (if_neg hk) nd i hx hv
theorem slot_at {vs : List V} {k : Nat} {i : Nat} {v : V} (h : (vs.map some ++ List.replicate k (none : Option V))[i]? = some (some v)) : vs[i]? = some v := by
 rcases Nat.lt_or_ge i (vs.map some).length with hi | hi
 ·rw [List.getElem?_append_left hi, List.getElem?_map] at h
  obtain ⟨u, hu, e⟩ := Option.map_eq_some_iff.mp h
  cases e; exact hu
 ·rw [List.getElem?_append_right hi] at h
  cases List.eq_of_mem_replicate (List.mem_of_getElem? h)
noncomputable def fdQ (d : Data) : Option FuncData := Data.casesOn d none (fun _ => none) (fun _ _ => none) (fun _ _ => none) (fun _ _ _ => none) (fun _ _ => none) (fun _ => none) some (fun _ => none) (fun _ => none) none
noncomputable def bodyQ (b : FuncBody) : Option (List Stmt) := FuncBody.casesOn b some fun _ => none
noncomputable def fdO (K : Frag) (a : Addr) : Option FuncData := (K.lookup a).bind fun o => fdQ o.data
noncomputable def bodyO (K : Frag) (a : Addr) : Option (List Stmt) := (fdO K a).bind fun fd => bodyQ fd.body
noncomputable def Fn.pn (f : Fn) : List Str := (f.fr.sl.take f.fr.np).map Str.ofString
noncomputable def lockind (nm : Nm) (x : String) : Bool := nm.lookup (Str.ofString x) == some .local || nm.lookup (Str.ofString x) == some .cell
noncomputable def chkFd (K : Frag) (f : Fn) (fd : FuncData) : Bool :=
 ((fd.closure.isEmpty && fd.scope.kind == .function) && (fd.globals == mainGlobals && fd.builtins == builtinsNs)) && (((!fd.scope.isGenerator && !fd.scope.isCoroutine) && codeIn K fd.code fd.qualname) &&
  (((Nat.ble f.fr.np f.fr.sl.length && decide f.fr.sl.Nodup) && f.fr.sl.all (lockind fd.scope.names)) && ((fd.scope.names.all fun p => fd.scope.names.lookup p.1 == some p.2 && (p.2 != .cell || f.fr.sl.any fun x => Str.ofString x == p.1)) && ((bodyQ fd.body).any fun b => okS f.fr.sl fd.scope.names f.fr.body b))))
structure FnsOK (K : Frag) (fn : Fn -> Addr) : Prop where
 txt : (List.range nFn).map (fun f => bodyO K (fn f)) = (List.range nFn).map fun f => some (mkS (Fn.fr f).sl (Fn.fr f).body ((bodyO K (fn f)).getD []))
 chk : (List.range nFn).all (fun f => (fdO K (fn f)).any (chkFd K f)) = true
 bind : ∀ v : Nat -> Value, (List.range nFn).map (fun f => (fdO K (fn f)).map fun fd => bindArgs fd ⟨(List.range (Fn.fr f).np).map v, []⟩) = (List.range nFn).map fun f => some (pure ((Fn.pn f).zip ((List.range (Fn.fr f).np).map v)))
theorem map_at {α : Type} {n i : Nat} {f g : Nat -> α} (h : (List.range n).map f = (List.range n).map g) (hi : i < n) : f i = g i := by
 have := congrArg (fun l => l[i]?) h
 simp only [List.getElem?_map, List.getElem?_range hi, Option.map_some] at this
 exact Option.some.inj this
theorem map_getD (xs : List Value) : (List.range xs.length).map (fun i => xs.getD i .none) = xs := by
 refine List.ext_getElem? fun i => ?_
 rcases Nat.lt_or_ge i xs.length with h | h
 ·rw [List.getElem?_map, List.getElem?_range h, List.getElem?_eq_getElem h, Option.map_some, List.getD_eq_getElem?_getD, List.getElem?_eq_getElem h]; rfl
 ·rw [List.getElem?_eq_none h, List.getElem?_eq_none (by rw [List.length_map, List.length_range]; exact h)]
theorem fdQ_is {d : Data} {fd : FuncData} (h : fdQ d = some fd) : d = .func fd := by cases d <;> first | exact congrArg Data.func (Option.some.inj h) | exact nomatch h
theorem bodyQ_is {d : FuncBody} {b : List Stmt} (h : bodyQ d = some b) : d = .stmts b := by cases d <;> first | exact congrArg FuncBody.stmts (Option.some.inj h) | exact nomatch h
inductive FnIs (K : Frag) (f : Fn) (a : Addr) : Prop
 | mk {o : Obj} {fd : FuncData} {b : List Stmt} : K.lookup a = some o -> o.data = .func fd -> fd.body = .stmts b -> mkS f.fr.sl f.fr.body b = b -> okS f.fr.sl fd.scope.names f.fr.body b = true ->
   (∀ xs : List Value, xs.length = f.fr.np -> bindArgs fd ⟨xs, []⟩ = pure (f.pn.zip xs)) -> fd.closure = [] -> fd.scope.kind = .function -> fd.globals = mainGlobals -> fd.builtins = builtinsNs -> fd.scope.isGenerator = false -> fd.scope.isCoroutine = false -> codeIn K fd.code fd.qualname = true ->
   f.fr.np ≤ f.fr.sl.length -> f.fr.sl.Nodup -> (∀ x ∈ f.fr.sl, fd.scope.names.lookup (Str.ofString x) = some .local ∨ fd.scope.names.lookup (Str.ofString x) = some .cell) ->
   (∀ p ∈ fd.scope.names, fd.scope.names.lookup p.1 = some p.2 /\ (p.2 = .cell -> ∃ x ∈ f.fr.sl, Str.ofString x = p.1)) -> FnIs K f a
theorem kind_fn {k : ScopeKind} (h : (k == .function) = true) : k = .function := by cases k <;> first | rfl | exact absurd h Bool.false_ne_true
theorem fnIs {K : Frag} {fn : Fn -> Addr} (C : FnsOK K fn) {f : Fn} (hf : f < nFn) : FnIs K f (fn f) := by
 have h1 := map_at C.txt hf
 have h2 := List.all_eq_true.mp C.chk f (List.mem_range.mpr hf)
 have h3 := fun v => map_at (C.bind v) hf
 cases e1 : K.lookup (fn f) with
 | none => rw [fdO, e1] at h2; exact absurd h2 Bool.false_ne_true
 | some o =>
  cases e2 : fdQ o.data with
  | none => rw [fdO, e1, Option.bind_some, e2] at h2; exact absurd h2 Bool.false_ne_true
  | some fd =>
   have ef : fdO K (fn f) = some fd := by rw [fdO, e1]; exact e2
   rw [ef] at h2
   obtain ⟨h4, h5⟩ := and_t (show chkFd K f fd = true from h2)
   obtain ⟨h4, h6⟩ := and_t h4
   obtain ⟨h7, h8⟩ := and_t h4
   obtain ⟨h9, h10⟩ := and_t h6
   obtain ⟨h11, h12⟩ := and_t h5
   obtain ⟨h11, h13⟩ := and_t h11
   obtain ⟨h14, h15⟩ := and_t h11
   obtain ⟨h16, h17⟩ := and_t h12
   obtain ⟨h16, h18⟩ := and_t h16
   obtain ⟨h19, h20⟩ := and_t h16
   obtain ⟨h21, h22⟩ := and_t h17
   cases e3 : bodyQ fd.body with
   | none => rw [e3] at h22; cases h22
   | some b =>
    rw [e3] at h22
    have eb : bodyO K (fn f) = some b := by rw [bodyO, ef]; exact e3
    rw [eb] at h1
    refine .mk e1 (fdQ_is e2) (bodyQ_is e3) (Option.some.inj h1).symm h22 (fun xs hx => ?_) (List.isEmpty_iff.mp h7) (kind_fn h8) (beq_iff_eq.mp h9) (beq_iff_eq.mp h10) (not_t h14) (not_t h15) h13 (Nat.le_of_ble_eq_true h19) (of_decide_eq_true h20) (fun x hx => ?_) fun p hp => ?_
    ·have := h3 fun i => xs.getD i .none
     rw [ef, <- hx, map_getD] at this
     exact Option.some.inj this
    ·exact ((Bool.or_eq_true _ _).mp (List.all_eq_true.mp h18 x hx)).imp beq_iff_eq.mp beq_iff_eq.mp
    ·obtain ⟨q1, q2⟩ := and_t (List.all_eq_true.mp h21 p hp)
     refine ⟨beq_iff_eq.mp q1, fun e => ?_⟩
     rw [e] at q2
     obtain ⟨x, hx, e⟩ := List.any_eq_true.mp q2
     exact ⟨x, hx, beq_iff_eq.mp e⟩
structure FactsF (prog : Program) (w : World) (K : Frag) (G : Gl) (g₀ : Heap) : Prop where
 cls : ClOK K G
 inK : K.In g₀
 tb : TbOK prog w G g₀
 gl : GlobOK g₀ G
 lim : g₀.NoLimit
 fn : FnsOK K G.fn
section
variable {prog : Program} {w : World} {K : Frag} {G : Gl} {g₀ : Heap}
theorem Deep.less {n m : Nat} {A : Around} (D : Deep n A) (h : m ≤ n) : Deep m A := ⟨D.h, by have := D.u; omega, by have := D.d; omega⟩
theorem soundF (Z : FactsF prog w K G g₀) (n : Nat) : SoundF prog w G g₀ (2 * n) (wpF n) := by
 induction n with
 | zero => exact fun f vs xs A s σ π Q R hf D q => absurd q (by with_unfolding_all exact fun q => q)
 | succ n ih =>
  intro f vs xs A s σ π Q R hf D q I r k
  have q : (vs.length = f.fr.np /\ wpS (wpF n) Q f.fr.body (fun _ σ' => Q .none σ') (vs.map some ++ List.replicate (f.fr.sl.length - f.fr.np) none) σ) ∨ wpF n f vs Q σ := by with_unfolding_all exact q
  rcases q with ⟨hlen, q⟩ | q
  ·have XK := I.keepK Z.inK
   induction fnIs Z.fn hf with
   | @mk oc fd b hlk hdt hb htxt hok hbind hclo hkind hglob hblt hgen hco hcode hnp hnd look nmA =>
   have hxl := r.length
   have hpn : f.pn.length = f.fr.np := by unfold Fn.pn; rw [List.length_map, List.length_take, Nat.min_eq_left hnp]
   have ndA : f.pn.Nodup := List.Pairwise.map _ (fun a b hab e => hab (ofString_inj e)) (List.Pairwise.sublist (List.take_sublist _ _) hnd)
   refine codeAny_call_cells (fd := fd) (body := b) (binds := f.pn.zip xs) (by have := D.d; omega) (XK _ _ hlk) hdt ?_ (codeRec_of XK hcode) hb (hbind xs (hxl.symm.trans hlen)) hclo (fun p hp => ?_) (fun s₁ x => ?_) hco hgen hkind
   ·obtain ⟨mc, ⟨o, es, ep, ho, hr⟩, hn⟩ := Z.lim
    exact ⟨mc, ⟨o, es, ep, I.base _ _ ho, hr⟩, hn⟩
   ·obtain ⟨y, hy, hye⟩ := List.mem_map.mp (List.of_mem_zip hp).1
    rcases look y (List.mem_of_mem_take hy) with h | h
    ·exact .inl (hye ▸ h)
    ·exact .inr ⟨hye ▸ h, cells_some _ (.inl (hye ▸ mem_of_lookup h))⟩
   ·generalize henv : callEnvC fd s.heap.objs.size (G.fn f) = env at x ⊢
    have e1 : env.scope = fd.scope := by rw [<- henv]; rfl
    have e2 : env.locals = s.heap.objs.size := by rw [<- henv]; rfl
    have e3 : env.globals = mainGlobals := by rw [<- henv]; exact hglob
    have e4 : env.builtins = builtinsNs := by rw [<- henv]; exact hblt
    have e5 : env.cells = cellsFrom (s.heap.objs.size + 1) fd.scope.names [] := by rw [<- henv]; rfl
    clear henv
    have ek : ∀ y, env.kindOf y = fd.scope.names.lookup y := fun y => by show env.scope.names.lookup y = _; rw [e1]
    obtain ⟨hh, tk, hs1⟩ := x.toInCall.same
    obtain ⟨I1, S1⟩ := I.ext x.toInCall.keep
    have fresh : ∀ a, env.locals ≤ a -> s.heap.get? a = none := fun a ha => (I.none_size' (e2 ▸ ha)).1
    have okA : ∀ a, env.locals ≤ a -> a ∉ addrs π /\ g₀.get? a = none /\ a ≠ G.lst := fun a ha => ⟨I.none_addr (fresh a ha), I.none_base (fresh a ha), fun e => by
     obtain ⟨o, z⟩ := Z.tb.lst
     have := I.none_base (fresh a ha)
     rw [e, z] at this; cases this⟩
    have above : ∀ z c, env.cells.lookup z = some c -> env.locals < c := fun z c hz => x.above z c (mem_of_lookup hz)
    have r1 := r.step I S1
    have nmAt : ∀ (i : Nat) y v, f.fr.sl[i]? = some y -> (vs.map some ++ List.replicate (f.fr.sl.length - f.fr.np) none)[i]? = some (some v) -> ∃ u, xs[i]? = some u /\ VR G s₁.heap π v u /\ f.pn[i]? = some (Str.ofString y) := fun i y v hy hv => by
     have hv' := slot_at hv
     obtain ⟨u, hu, ru⟩ := r1.get hv'
     refine ⟨u, hu, ru, ?_⟩
     unfold Fn.pn
     rw [List.getElem?_map, List.getElem?_take, if_pos (hlen ▸ (List.getElem?_eq_some_iff.mp hv').1), hy]; rfl
    have Fr0 : Frame ⟨prog, w, K, G, g₀, 2 * n, wpF n, env, f.fr.sl, [], []⟩ s₁.heap π (vs.map some ++ List.replicate (f.fr.sl.length - f.fr.np) none) := by
     refine ⟨by show env.scope.kind = _; rw [e1]; exact hkind, e3, e4, rfl, ?_, ⟨_, ⟨x.toInCall.ns, (okA _ (Nat.le_refl _)).1, (okA _ (Nat.le_refl _)).2.1, (okA _ (Nat.le_refl _)).2.2⟩, fun i y v hy hv hl => ?_⟩, fun i y hy hl => ?_, fun z c hz => Nat.ne_of_gt (above z c hz), fun z z' c h1 h2 => ?_, fun i y hy hl => ?_, hnd, fun z c hz => ?_⟩
     ·rw [List.length_append, List.length_map, List.length_replicate, hlen]; exact Nat.add_sub_cancel' hnp
     ·obtain ⟨u, hu, ru, hn⟩ := nmAt i y v hy hv
      exact ⟨u, bindL_at hl ndA i hn hu, ru⟩
     ·have hl : env.kindOf (Str.ofString y) = some .cell := hl
      obtain ⟨c, hc⟩ := Option.isSome_iff_exists.mp (cells_some (n := s.heap.objs.size + 1) (acc := []) fd.scope.names (.inl (mem_of_lookup ((ek _).symm.trans hl))))
      rw [<- e5] at hc
      obtain ⟨o1, o2, o3⟩ := okA c (Nat.le_of_lt (above _ _ hc))
      refine .mk hc (x.cell _ _ hc) o1 o2 o3 fun v hv => ?_
      obtain ⟨u, hu, ru, hn⟩ := nmAt i y v hy hv
      exact ⟨u, bindC_at (by rw [hl]; nofun) ndA i hn hu, ru⟩
     ·obtain ⟨i, hi⟩ := List.mem_iff_getElem?.mp (mem_of_lookup h1)
      obtain ⟨j, hj⟩ := List.mem_iff_getElem?.mp (mem_of_lookup h2)
      obtain ⟨i1, i2⟩ := List.getElem?_eq_some_iff.mp hi
      obtain ⟨j1, j2⟩ := List.getElem?_eq_some_iff.mp hj
      rcases Nat.lt_trichotomy i j with h | h | h
      ·exact absurd (by rw [i2, j2]) (List.pairwise_iff_getElem.mp x.apart i j i1 j1 h)
      ·subst h; rw [hi] at hj; cases hj; rfl
      ·exact absurd (by rw [i2, j2]) (List.pairwise_iff_getElem.mp x.apart j i j1 i1 h)
     ·have hl := (ek _).symm.trans hl
      rcases look y (List.mem_of_getElem? hy) with h | h <;> rw [h] at hl <;> cases hl
     ·have hz : env.cells.lookup z = some c := hz
      rw [e5] at hz
      rcases cells_of _ hz with h | h
      ·obtain ⟨h1, h2⟩ := nmA _ h
       obtain ⟨y, hy, hye⟩ := h2 rfl
       obtain ⟨i, hi⟩ := List.mem_iff_getElem?.mp hy
       exact ⟨i, y, hi, hye, (ek z).trans h1⟩
      ·cases h
    have st := stS (X := ⟨prog, w, K, G, g₀, 2 * n, wpF n, env, f.fr.sl, [], []⟩) (R := Q) ⟨Z.cls, Z.inK, Z.tb, Z.gl, ih⟩ (show env.scope.kind = _ by rw [e1]; exact hkind) f.fr.body b (by show okS _ env.scope.names _ _ = true; rw [e1]; exact hok)
    rw [htxt] at st
    refine st (A.deeper env) _ s s₁ π π σ _ _ _ ⟨D.h, ?_, ?_⟩ ⟨fresh _ (Nat.le_refl _), fun z c hz => fresh c (Nat.le_of_lt (above z c hz))⟩ q ⟨I1, S1, by rw [hs1]; exact ⟨rfl, rfl⟩, Fr0⟩ (fun ρ' σ' s' π' hq X' => k .none σ' s' π' .none hq X'.J X'.S X'.z .none) fun ρ' σ' s' π' v y hq X' ry => k v σ' s' π' y hq X'.J X'.S X'.z ry
    ·have := D.u; show A.units + 3 + 40 * (2 * n + 1) + 300 < _; omega
    ·have := D.d; show A.depth + 1 + 5 * (2 * n + 1) < _; omega
  ·exact ih f vs xs A s σ π Q R hf (D.less (by omega)) q I r k
end
noncomputable def gfn (f : Fn) : Addr := [73, 80, 87, 101, 108, 115, 122, 129, 136, 143, 150, 157, 164, 171, 178, 185, 192, 207, 221, 242, 263, 284, 298, 305, 312, 319, 326, 333, 340, 347, 354, 361, 368, 382, 389, 394, 408, 415, 420, 427, 434, 441, 448, 455, 462, 469, 476, 483, 488, 493, 500, 507, 512, 519, 526, 533, 540, 547, 552, 559, 564, 569, 576, 581, 588, 595, 602, 607, 614, 619, 626, 633, 638, 645, 650].getD f 0
noncomputable def gcl (c : Cl) : Addr := [31, 44, 56, 90, 224, 245, 266, 287, 397].getD c 0
noncomputable def gtb (t : Tb) : Addr := [59, 193].getD t 0
noncomputable def glb (l : Addr) : Gl := ⟨gfn, gcl, gtb, l⟩
noncomputable def chkCl (K : Frag) (c : Cl) : Bool := c.init.all fun f =>
 ((hasDictIn K (gcl c) && plainOver K (gcl c)) && (plainGet K (gcl c) (Str.ofString "x") && (findIn K (.ref (gcl c)) "__setattr__" == some (some (.builtin "object.__setattr__"))))) &&
  ((makesIn K (gcl c) && (findIn K (.ref (gcl c)) "__init__" == some (some (.ref (gfn f))))) && ((keepIn K (.ref (gcl c)) && Nat.blt f nFn) &&
  (List.range nAt).all fun n => (Nat.beq c Cl.Paths && Nat.beq n At.kind) || (findIn K (.ref (gcl c)) (Str.ofString (At.nm n)) == some none)))
noncomputable def chkMe (K : Frag) (c : Cl) (m : Me) : Bool := (c.meth m).all fun f => Nat.blt f nFn && findIn K (.ref (gcl c)) (Str.ofString m.nm) == some (some (.ref (gfn f)))
noncomputable def tokOf (y : Value) : Tok := match y with
 | .int _ t => t
 | _ => 0
noncomputable def vOf (v : V) (t : Tok) : Value := V.casesOn v .none (fun _ => .none) (fun i => .int i t) (fun _ => .none) (fun _ => .none) (fun _ => .none) (fun f => .ref (gfn f)) (fun c => .ref (gcl c)) (fun t => .ref (gtb t)) biV (fun _ _ => .none) (fun _ => .none)
noncomputable def okV (v : V) : Bool := V.casesOn v false (fun _ => false) (fun _ => true) (fun _ => false) (fun _ => false) (fun _ => false) (fun f => Nat.blt f nFn) (fun _ => true) (fun t => Nat.blt t nTb) (fun _ => true) (fun _ _ => false) (fun _ => false)
noncomputable def valIs (v : V) (y : Value) : Bool := okV v && y == vOf v (tokOf y)
noncomputable def chkGl (K : Frag) (p : String × V) : Bool := (nsIn K mainGlobals (Str.ofString p.1)).any fun o => Option.casesOn o ((bootBuiltins (Str.ofString p.1)).any fun y => valIs p.2 y && Str.ofString p.1 != Str.ofString "__name__") fun y => valIs p.2 y
noncomputable def rowIs (r : Int × Int) (e : DictEntry) : Bool := e.hash == reduceHash (intHash r.1) && (e.key == .int r.1 (tokOf e.key) && e.val == .int r.2 (tokOf e.val))
noncomputable def rowsIs (rows : List (Int × Int)) (es : List DictEntry) : Bool := Nat.beq rows.length es.length && (rows.zip es).all fun p => rowIs p.1 p.2
noncomputable def dicQ (d : Data) : Option (Array DictEntry) := Data.casesOn d none (fun _ => none) (fun _ _ => none) (fun a _ => some a) (fun _ _ _ => none) (fun _ _ => none) (fun _ => none) (fun _ => none) (fun _ => none) (fun _ => none) none
noncomputable def chkTb (K : Frag) (t : Tb) : Bool := (gtb t != sysModules) && (K.lookup (gtb t)).any fun o => (o.cls == .type "dict" && (o.dict.isNone && o.slots.isEmpty)) && (dicQ o.data).any fun es => rowsIs t.rows es.toList
theorem valIs_VR {l : Addr} {v : V} {y : Value} (h : valIs v y = true) (hp : Heap) (π : Pi) : VR (glb l) hp π v y := by
 obtain ⟨h1, h2⟩ := and_t h
 rw [beq_iff_eq.mp h2]
 generalize tokOf y = t
 clear h h2
 cases v with
 | int i => exact .int _ _
 | fn f => exact .fn (Nat.le_of_ble_eq_true h1)
 | cls c => exact .cls _
 | tbl t => exact .tbl (Nat.le_of_ble_eq_true h1)
 | bi b => exact .bi _
 | _ => exact absurd h1 Bool.false_ne_true
theorem rows_ER {P : Params} {l : Addr} {h : Heap} {π : Pi} {rows : List (Int × Int)} : ∀ {es : List DictEntry}, rowsIs rows es = true -> ER P (glb l) h π (hashV P) (rows.map fun r => (V.int r.1, V.int r.2)) es := by
 induction rows with
 | nil => intro es q; cases es with
  | nil => exact .nil
  | cons _ _ => exact absurd q Bool.false_ne_true
 | cons r rows ih => intro es q; cases es with
  | nil => exact absurd q Bool.false_ne_true
  | cons e es =>
   obtain ⟨q1, q2⟩ := and_t q
   obtain ⟨q2, q3⟩ := and_t (show (rowIs r e && (rows.zip es).all fun p => rowIs p.1 p.2) = true from q2)
   obtain ⟨q4, q5⟩ := and_t q2
   obtain ⟨q5, q6⟩ := and_t q5
   obtain ⟨a, b, c⟩ := e
   rw [show a = _ from beq_iff_eq.mp q4, show b = _ from beq_iff_eq.mp q5, show c = _ from beq_iff_eq.mp q6]
   exact .cons (.int _ _) (.int _ _) (ih (show (Nat.beq rows.length es.length && _) = true by rw [show Nat.beq rows.length es.length = true from q1, q3]; rfl))
theorem tb_keys : ∀ t < nTb, ((Tb.rows t).map (·.1)).Nodup := by decide +kernel
theorem rows_keys {t : Tb} (ht : t < nTb) : KeysOk (t.rows.map fun r => (V.int r.1, V.int r.2)) := by
 refine ⟨?_, 1, nofun, fun e he => ?_⟩
 ·rw [List.map_map, show ((fun x : V × V => x.1) ∘ fun r : Int × Int => (V.int r.1, V.int r.2)) = V.int ∘ (·.1) from rfl, <- List.map_map]
  exact List.Pairwise.map _ (fun a b hab e => hab (V.int.inj e)) (tb_keys t ht)
 ·obtain ⟨r, _, rfl⟩ := List.mem_map.mp he
  rfl
theorem getD_lt {α : Type} {l : List α} {d : α} {i : Nat} (h : l.getD i d ≠ d) : i < l.length := by
 rcases Nat.lt_or_ge i l.length with g | g
 ·exact g
 ·rw [List.getD_eq_getElem?_getD, List.getElem?_eq_none g] at h
  exact absurd rfl h
theorem all_lt {n i : Nat} {p : Nat -> Bool} (h : (List.range n).all p = true) (hi : i < n) : p i = true := List.all_eq_true.mp h i (List.mem_range.mpr hi)
theorem init_lt {c : Cl} {f : Fn} (h : c.init = some f) : c < nCl := getD_lt (l := clInit) (d := none) (by rw [show clInit.getD c none = some f from h]; nofun)
theorem meth_lt {c : Cl} {m : Me} {f : Fn} (h : c.meth m = some f) : c < nCl /\ m < 8 := by
 have h : (clMeth.getD c []).getD m none = some f := h
 have hc : c < nCl := by
  rcases Nat.lt_or_ge c nCl with g | g
  ·exact g
  ·rw [List.getD_eq_getElem?_getD (l := clMeth), List.getElem?_eq_none g] at h
   cases h
 have hm := getD_lt (l := clMeth.getD c []) (d := none) (i := m) (by rw [h]; nofun)
 have all : ∀ c < nCl, (clMeth.getD c []).length ≤ 8 := by decide +kernel
 exact ⟨hc, Nat.lt_of_lt_of_le hm (all c hc)⟩
structure Chk (K : Frag) : Prop where
 cl : (List.range nCl).all (chkCl K) = true
 me : (List.range nCl).all (fun c => (List.range 8).all (chkMe K c)) = true
 fk : (List.range nFn).all (fun f => isFn K (.ref (gfn f)) && keepIn K (.ref (gfn f))) = true
 tb : (List.range nTb).all (chkTb K) = true
 gl : globs.all (chkGl K) = true
 fn : FnsOK K gfn
section
variable {prog : Program} {w : World} {K : Frag} {g₀ : Heap} {l : Addr} {p : Program} {loose : List Str} {mg mb : Str -> Option Value}
theorem clOK (C : Chk K) : ClOK K (glb l) := by
 have cl : ∀ {c : Cl} {f : Fn}, c.init = some f -> ((hasDictIn K (gcl c) = true /\ plainOver K (gcl c) = true) /\ (plainGet K (gcl c) (Str.ofString "x") = true /\ (findIn K (.ref (gcl c)) "__setattr__" == some (some (.builtin "object.__setattr__"))) = true)) /\
   ((makesIn K (gcl c) = true /\ (findIn K (.ref (gcl c)) "__init__" == some (some (.ref (gfn f)))) = true) /\ ((keepIn K (.ref (gcl c)) = true /\ Nat.blt f nFn = true) /\ (List.range nAt).all (fun n => (Nat.beq c Cl.Paths && Nat.beq n At.kind) || (findIn K (.ref (gcl c)) (Str.ofString (At.nm n)) == some none)) = true)) := fun {c f} hf => by
  have h := all_lt C.cl (init_lt hf)
  unfold chkCl at h
  rw [hf] at h
  exact (and_t h).imp (fun h => (and_t h).imp and_t and_t) fun h => (and_t h).imp and_t fun h => (and_t h).imp and_t id
 refine ⟨fun c hc => ?_, fun c hc => ?_, fun c n hc hn hp => ?_, fun c m f hm => ?_, fun f hf => and_t (all_lt C.fk hf), fun c f hf => ?_⟩
 ·obtain ⟨f, hf⟩ := Option.isSome_iff_exists.mp hc
  have h := cl hf
  exact ⟨h.1.1.1, h.1.1.2, h.1.2.1⟩
 ·obtain ⟨f, hf⟩ := Option.isSome_iff_exists.mp hc
  exact beq_iff_eq.mp (cl hf).1.2.2
 ·obtain ⟨f, hf⟩ := Option.isSome_iff_exists.mp hc
  have h := all_lt (cl hf).2.2.2 hn
  rw [hp] at h
  exact beq_iff_eq.mp h
 ·obtain ⟨h1, h2⟩ := meth_lt hm
  have h := all_lt (all_lt C.me h1) h2
  unfold chkMe at h
  rw [hm] at h
  exact (and_t h).imp Nat.le_of_ble_eq_true beq_iff_eq.mp
 ·have h := (cl hf).2
  exact ⟨Nat.le_of_ble_eq_true h.2.1.2, h.1.1, beq_iff_eq.mp h.1.2, h.2.1.1⟩
theorem dicQ_is {d : Data} {es : Array DictEntry} (h : dicQ d = some es) : ∃ n, d = .dict es n := by cases d <;> first | exact ⟨_, congrArg (Data.dict · _) (Option.some.inj h)⟩ | exact nomatch h
theorem tbOK (C : Chk K) (X : K.In g₀) (hl : ∃ o, g₀.get? l = some o) : TbOK prog w (glb l) g₀ := by
 refine ⟨fun t ht => ?_, hl⟩
 obtain ⟨h1, h2⟩ := and_t (all_lt C.tb ht)
 cases e : K.lookup (gtb t) with
 | none => rw [e] at h2; cases h2
 | some o =>
  rw [e] at h2
  obtain ⟨h3, h4⟩ := and_t h2
  obtain ⟨h3, h5⟩ := and_t h3
  obtain ⟨h5, h6⟩ := and_t h5
  cases e2 : dicQ o.data with
  | none => rw [e2] at h4; cases h4
  | some es =>
   rw [e2] at h4
   obtain ⟨n, e2⟩ := dicQ_is e2
   refine ⟨es.toList, n, ?_, not_t h1, (fun _ _ => rows_ER h4), rows_keys ht⟩
   rw [show g₀.get? ((glb l).tb t) = _ from X _ _ e]
   obtain ⟨c, d, da, sl⟩ := o
   simp only at e2 h3 h5 h6
   rw [e2, beq_iff_eq.mp h3, Option.isNone_iff_eq_none.mp h5, Array.isEmpty_iff.mp h6]
theorem glOK (C : Chk K) (X : K.In g₀) (T : TopRead p loose mg mb g₀) : GlobOK g₀ (glb l) := by
 refine ⟨fun x v hx => ?_⟩
 have h := List.all_eq_true.mp C.gl (x, v) hx
 unfold chkGl at h
 cases e : nsIn K mainGlobals (Str.ofString x) with
 | none => rw [e] at h; cases h
 | some o =>
  rw [e] at h
  cases o with
  | some y => exact ⟨y, fun h' π => valIs_VR h h' π, fun {M A E s Q env} hb hg hbl q => loadGlobal_global (by rw [hg]; exact T.g.keeps hb) (mg_of X T.g e) q⟩
  | none =>
   have h : ((bootBuiltins (Str.ofString x)).any fun y => valIs v y && Str.ofString x != Str.ofString "__name__") = true := h
   cases e2 : bootBuiltins (Str.ofString x) with
   | none => rw [e2] at h; cases h
   | some y =>
    rw [e2] at h
    obtain ⟨h1, h2⟩ := and_t (show (valIs v y && Str.ofString x != Str.ofString "__name__") = true from h)
    exact ⟨y, fun h' π => valIs_VR h1 h' π, fun {M A E s Q env} hb hg hbl q => loadGlobal_builtin (by rw [hg]; exact T.g.keeps hb) (mg_none_of X T.g e) (by rw [hbl]; exact T.b.keeps hb) ((T.builtins _ (bne_iff_ne.mp h2)).trans e2) q⟩
theorem facts (C : Chk K) (X : K.In g₀) (T : TopRead p loose mg mb g₀) (hl : ∃ o, g₀.get? l = some o) : FactsF prog w K (glb l) g₀ := ⟨clOK C, X, tbOK C X hl, glOK C X T, T.nolimit, C.fn⟩
end
noncomputable abbrev lawSl : List String := (Fn.fr Fn.law).sl
noncomputable def chkLaw (scope : Scope) (body : List Stmt) : Bool := (scope.kind == .function && okS lawSl scope.names body_law body) && (decide lawSl.Nodup && lawSl.all fun x => scope.names.lookup (Str.ofString x) == some .local)
theorem ints_VRs {P : Params} {G : Gl} {h : Heap} {π : Pi} {ns : List Int} : ∀ {vs : List Value}, WellAll P h vs (ofPys (ns.map PyData.int)) -> VRs G h π (ns.map V.int) vs := by
 induction ns with
 | nil => intro vs w; cases w; exact .nil
 | cons n ns ih =>
  intro vs w
  cases w with
  | cons a r => cases a; exact .cons (.int _ _) (ih r)
theorem ints_of {G : Gl} {π : Pi} {P : Params} {h : Heap} {l : Addr} {ns : List Int} (x : Well P h (.ref l) (ofPy (PyData.list (ns.map PyData.int)))) : ∃ vs : List Value, h.get? l = some (lstO vs 0) /\ VRs G h π (ns.map V.int) vs := by
 cases x with
 | list h1 h2 => exact ⟨_, h1, ints_VRs h2⟩
theorem fin_go {prog : Program} {w : World} {K : Frag} {l L fa : Addr} {s₁ s : Shared} {ns : List Int} {m : Str -> Option Value} {name : Str} {scope : Scope} {cd : Value} {body : List Stmt} {R : Flow -> Shared -> Prop} {E : Value -> Shared -> Prop}
  (Z : FactsF prog w K (glb l) s₁.heap) (hw : Well w.params s₁.heap (.ref l) (ofPy (PyData.list (ns.map PyData.int)))) (hn : ns.length ≤ 63)
  (F : PyProof.Rows.Fr s₁.heap L s.heap m) (hm : m (Str.ofString "script") = some (.ref l)) (hz : s.gens = s₁.gens /\ s.os = s₁.os) (hk : chkLaw scope body = true) (ht : mkS lawSl body_law body = body)
  (hR : ∀ s' m', PyProof.Rows.Fr s₁.heap L s'.heap m' -> s'.gens = s₁.gens -> s'.os = s₁.os -> R (.ret (.bool true)) s') :
  wpAny (model prog w) (callerA.deeper (envOf name scope L fa cd)) (execs body (envOf name scope L fa cd)) R E s := by
 have hs : ∃ a o, 1 < a /\ s₁.heap.get? a = some o := by
  obtain ⟨es, n, e, _⟩ := Z.tb.tab 0 (by decide)
  exact ⟨_, _, show 1 < gtb 0 by decide, e⟩
 obtain ⟨h1, h2⟩ := and_t hk
 obtain ⟨hkind, hok⟩ := and_t h1
 obtain ⟨hnd, hall⟩ := and_t h2
 have hkind := kind_fn hkind
 obtain ⟨vs, hw, hv⟩ := ints_of (G := glb l) (π := []) hw
 have look : ∀ {i : Nat} {x : String}, lawSl[i]? = some x -> (envOf name scope L fa cd).kindOf (Str.ofString x) = some .local := fun hx => beq_iff_eq.mp (List.all_eq_true.mp hall _ (List.mem_of_getElem? hx))
 have nL : s₁.heap.get? L = none := by
  cases z : s₁.heap.get? L with
  | none => rfl
  | some o => exact absurd (Heap.lt_size z) (Nat.not_lt.mpr F.above)
 have lL : L ≠ l := fun e => by rw [e, hw] at nL; cases nL
 have I0 : Inv w.params (glb l) s₁.heap s₁.heap [] [] := ⟨rfl, nofun, List.nodup_nil, nofun, fun a o e => e, hs⟩
 obtain ⟨I, S⟩ := I0.ext (h' := s.heap) F.keep
 have rl : VR (glb l) s.heap [] (.rol (ns.map .int)) (.ref l) :=
  VR.step I0 S (show VR (glb l) s₁.heap [] (.rol (ns.map .int)) (.ref (glb l).lst) from .rol hw List.not_mem_nil (by rw [<- hv.length, List.length_map]; omega) hv.1 hv.2)
 have fr : Frame ⟨prog, w, K, glb l, s₁.heap, 2 * 60, wpF 60, envOf name scope L fa cd, lawSl, [], []⟩ s.heap [] [some (.rol (ns.map .int)), none, none, none, none, none, none, none, none, none, none, none, none] := by
  refine ⟨hkind, rfl, rfl, rfl, rfl, ⟨m, ⟨F.ns, List.not_mem_nil, nL, lL⟩, fun i x v hx hv hl => ?_⟩, (fun i x hx hl => nomatch (look hx).symm.trans hl), (fun _ _ h => nomatch h), (fun _ _ _ h => nomatch h), (fun i x hx hl => nomatch (look hx).symm.trans hl), of_decide_eq_true hnd, (fun _ _ h => nomatch h)⟩
  cases i with
  | zero => cases hx; cases hv; exact ⟨_, hm, rl⟩
  | succ i => cases List.eq_of_mem_replicate (n := 12) (a := none) (List.mem_of_getElem? (i := i) hv)
 have X₀ : Fst ⟨prog, w, K, glb l, s₁.heap, 2 * 60, wpF 60, envOf name scope L fa cd, lawSl, [], []⟩ s [] s [] [] [some (.rol (ns.map .int)), none, none, none, none, none, none, none, none, none, none, none, none] := ⟨I, Step.refl _ _, ⟨rfl, rfl⟩, fr⟩
 obtain ⟨gc, gx⟩ := X₀.mkGhost
 have st := stS (X := ⟨prog, w, K, glb l, s₁.heap, 2 * 60, wpF 60, envOf name scope L fa cd, lawSl, [], []⟩) (R := fun v _ => v = .bool true) ⟨Z.cls, Z.inK, Z.tb, Z.gl, soundF Z 60⟩ hkind body_law body hok
 rw [ht] at st
 refine st _ E _ s [] [] [] _ (fun _ _ => False) R ⟨rfl, by show 4 + 3 + 40 * 121 + 300 < cLine; decide, by show 1 + claimMargin + 1 + 5 * 121 < recursionLimit; decide⟩ gc (law_is ns) gx (fun _ _ _ _ q _ => q.elim) fun ρ' σ' s' π' v x hq X' rx => ?_
 subst hq
 cases rx
 obtain ⟨m', O, _⟩ := X'.fr.own
 exact hR s' m' ⟨O.ns, X'.J.base, F.above⟩ (X'.z.1.trans hz.1) (X'.z.2.trans hz.2)
end
theorem main.tw13962693860625380366:True:=trivial
theorem main.tw2852251193174398662:True:=trivial
theorem main.tw15589955886551607785:True:=trivial
theorem main.tw11273777480241942364:True:=trivial
theorem main.tw8260724100714396741:True:=trivial
theorem main.tw11692516046256081784:True:=trivial
theorem main.tw1664562912124846029:True:=trivial
theorem main.tw5084117380071580128:True:=trivial
theorem main.tw5638201095994319732:True:=trivial
theorem main.tw11156056980113079860:True:=trivial
theorem main.tw14080665800827857628:True:=trivial
theorem main.tw14864641218109852296:True:=trivial
theorem main.tw14646587721710459877:True:=trivial
theorem main.tw13626721169425172152:True:=trivial
theorem main.tw7083192437325867461:True:=trivial
theorem main.tw16798622893749714585:True:=trivial
theorem main.tw1277820614484962519:True:=trivial
theorem main.tw11857135199678951331:True:=trivial
theorem main.tw15803610866087392283:True:=trivial
theorem main.tw15023316991559800185:True:=trivial
theorem main.tw12298629886278197574:True:=trivial
theorem main.tw6801380410627298636:True:=trivial
theorem main.tw10114013102757674387:True:=trivial
theorem main.tw10876375607700338302:True:=trivial
theorem main.tw16317613164959833988:True:=trivial
theorem main.tw12747388180105724736:True:=trivial
theorem main.tw11735423636902730196:True:=trivial
theorem main.tw5418533224930618480:True:=trivial
theorem main.tw15510692781650021527:True:=trivial
theorem main.tw17292155258170135553:True:=trivial
theorem main.tw4544244032028310869:True:=trivial
theorem main.tw1390771862084280389:True:=trivial
theorem main.tw8905464785575363620:True:=trivial
theorem main.tw5585478044538960755:True:=trivial
theorem main.tw1372806426800153423:True:=trivial
theorem main.tw5181119749688162637:True:=trivial
theorem main.tw15365013842991253249:True:=trivial
theorem main.tw16832360635688203351:True:=trivial
theorem main.tw4573282807186111410:True:=trivial
theorem main.tw471287901995484742:True:=trivial
theorem main.tw13974046611088194958:True:=trivial
theorem main.tw12872379398031375081:True:=trivial
theorem main.tw8930851030842425676:True:=trivial
theorem main.tw15616401959046598769:True:=trivial
theorem main.tw16452447596832230105:True:=trivial
theorem main.tw16026485685270457870:True:=trivial
theorem main.tw2744014450722944760:True:=trivial
theorem main.tw5665406974723832613:True:=trivial
theorem main.tw1306636233014830658:True:=trivial
theorem main.tw16008457594558532635:True:=trivial
theorem main.tw8440099810896429113:True:=trivial
theorem main.tw15083514112713526041:True:=trivial
theorem main.tw9274054859765456524:True:=trivial
theorem main.tw14216407083858561409:True:=trivial
theorem main.tw3958507339218470045:True:=trivial
theorem main.tw4650958065196391918:True:=trivial
theorem main.tw18287795668848337631:True:=trivial
theorem main.tw365850788961202214:True:=trivial
theorem main.tw5240779543111244032:True:=trivial
theorem main.tw14457758005677747962:True:=trivial
theorem main.tw15734200111481486640:True:=trivial
theorem main.tw16035907590883218939:True:=trivial
theorem main.tw14539993770535171780:True:=trivial
theorem main.tw1099256609624015869:True:=trivial
theorem main.tw3549514262204291990:True:=trivial
theorem main.tw7113585516715319716:True:=trivial
theorem main.tw8546124895413445307:True:=trivial
theorem main.tw5842977544298395883:True:=trivial
theorem main.tw6361450105264607166:True:=trivial
theorem main.tw9563168847844234846:True:=trivial
theorem main.tw1429040668314091153:True:=trivial
theorem main.tw15624239662980076321:True:=trivial
theorem main.tw11239335112260394413:True:=trivial
theorem main.tw917386388269078853:True:=trivial
theorem main.tw12093647306153771053:True:=trivial
theorem main.tw13180746182150919023:True:=trivial
theorem main.tw5532463470591059822:True:=trivial
theorem main.tw4637267157515435788:True:=trivial
theorem main.tw6697339332421208802:True:=trivial
theorem main.tw2173562974560187446:True:=trivial
theorem main.tw17147588175821073265:True:=trivial
theorem main.tw10450603732522932521:True:=trivial
theorem main.tw11399646045708457374:True:=trivial
theorem main.tw9994787619460420439:True:=trivial
theorem main.tw1826329307503635854:True:=trivial
theorem main.tw1545906260438175962:True:=trivial
theorem main.tw12623159325031504133:True:=trivial
theorem main.tw11020365191643786025:True:=trivial
theorem main.tw10140136200207757160:True:=trivial
theorem main.tw14106445559736802775:True:=trivial
theorem main.tw17958375852430007124:True:=trivial
theorem main.tw11135027115929721415:True:=trivial
theorem main.tw5127751686995613262:True:=trivial
theorem main.tw13803360072150633466:True:=trivial
theorem main.tw765107192605250810:True:=trivial
theorem main.tw11461230924637031220:True:=trivial
theorem main.tw16721930046160240684:True:=trivial
theorem main.tw12273490649430754879:True:=trivial
theorem main.tw4651154628705390771:True:=trivial
theorem main.tw10877679251791092727:True:=trivial
theorem main.tw1920180009587919529:True:=trivial
theorem main.tw6690441779611380620:True:=trivial
theorem main.tw7273056430967151046:True:=trivial
theorem main.tw5995161000843957690:True:=trivial
theorem main.tw6449824600675878752:True:=trivial
theorem main.tw7647378279178456250:True:=trivial
theorem main.tw1253437644075932092:True:=trivial
theorem main.tw7298748307773712898:True:=trivial
theorem main.tw10094358506670053839:True:=trivial
theorem main.tw14492832472218066102:True:=trivial
theorem main.tw11752208632293872130:True:=trivial
theorem main.tw3848698983108048278:True:=trivial
theorem main.tw9155575984036265788:True:=trivial
theorem main.tw8118072479153026202:True:=trivial
theorem main.tw6044114016751833949:True:=trivial
theorem main.tw16356685582667847594:True:=trivial
theorem main.tw14666387041718499266:True:=trivial
theorem main.tw13406003279186336099:True:=trivial
theorem main.tw2402762420636078793:True:=trivial
theorem main.tw6334894449686545209:True:=trivial
theorem main.tw1178595665728414349:True:=trivial
theorem main.tw2538046985915079169:True:=trivial
theorem main.tw4324958949535026087:True:=trivial
theorem main.tw10076426473510895491:True:=trivial
theorem main.tw6161133996638707016:True:=trivial
theorem main.tw13995172100960836882:True:=trivial
theorem main.tw5623159541915647742:True:=trivial
theorem main.tw2039954845988140816:True:=trivial
theorem main.tw11101190512080308003:True:=trivial
theorem main.tw9942282790977331292:True:=trivial
theorem main.tw10298723112805639129:True:=trivial
theorem main.tw11716418206903941319:True:=trivial
theorem main.tw15558288988949320067:True:=trivial
theorem main.tw10924716458440934090:True:=trivial
theorem main.tw1469836325065767749:True:=trivial
theorem main.tw15350898050860989542:True:=trivial
theorem main.tw5790326737455844299:True:=trivial
theorem main.tw5921134243170700561:True:=trivial
theorem main.tw2406621943657119228:True:=trivial
theorem main.tw13157206579259725088:True:=trivial
theorem main.tw16187894506366716058:True:=trivial
theorem main.tw16544489699163171333:True:=trivial
theorem main.tw6910295442248876197:True:=trivial
theorem main.tw1615956725737779560:True:=trivial
theorem main.tw14625788440519214713:True:=trivial
theorem main.tw962032349192862916:True:=trivial
theorem main.tw4775608329324902142:True:=trivial
theorem main.tw12361340156312767134:True:=trivial
theorem main.tw7308723440029596264:True:=trivial
theorem main.tw17297283025540448806:True:=trivial
theorem main.tw9925469786538053656:True:=trivial
theorem main.tw14771111431291430275:True:=trivial
theorem main.tw5518243967957118194:True:=trivial
theorem main.tw3079636774098643208:True:=trivial
theorem main.tw6660377722381337597:True:=trivial
theorem main.tw10047389527955405517:True:=trivial
theorem main.tw13547569757486424058:True:=trivial
theorem main.tw1496695287857109588:True:=trivial
theorem main.tw9848185148710128376:True:=trivial
theorem main.tw12646911602827044314:True:=trivial
theorem main.tw7332552209862256014:True:=trivial
theorem main.tw18403998269306519403:True:=trivial
theorem main.tw2714283472998740243:True:=trivial
theorem main.tw10453263994017694363:True:=trivial
theorem main.tw15608450976537380609:True:=trivial
theorem main.tw10642606787283503386:True:=trivial
theorem main.tw16819838333489098493:True:=trivial
theorem main.tw16123001533466179255:True:=trivial
theorem main.tw7904437144335635152:True:=trivial
theorem main.tw6164561884633627433:True:=trivial
theorem main.tw12431561837914552411:True:=trivial
theorem main.tw1319676515408343850:True:=trivial
theorem main.tw16758809965011540125:True:=trivial
theorem main.tw8436210846270712021:True:=trivial
theorem main.tw7221758910455160077:True:=trivial
theorem main.tw15277975159832343749:True:=trivial
theorem main.tw9361300454564663673:True:=trivial
theorem main.tw12608185968620612914:True:=trivial
theorem main.tw7237411587787531456:True:=trivial
theorem main.tw17438294365789470252:True:=trivial
theorem main.tw3298483428156984901:True:=trivial
theorem main.tw6385024630547198690:True:=trivial
theorem main.tw14798791472264738832:True:=trivial
theorem main.tw13465503431842376007:True:=trivial
theorem main.tw10609540516017602915:True:=trivial
theorem main.tw6886502059237256666:True:=trivial
theorem main.tw6482745251584875665:True:=trivial
theorem main.tw4072190877284726289:True:=trivial
theorem main.tw1454224541498743561:True:=trivial
theorem main.tw13693970394777133609:True:=trivial
theorem main.tw1632041292262086317:True:=trivial
theorem main.tw14313897822631088780:True:=trivial
theorem main.tw9369988214560726041:True:=trivial
theorem main.tw16451033083921036709:True:=trivial
theorem main.tw9121559901702372667:True:=trivial
theorem main.tw656089360051881306:True:=trivial
theorem main.tw6389877041954997217:True:=trivial
theorem main.tw1690570244294969554:True:=trivial
theorem main.tw15225127925928830808:True:=trivial
theorem main.tw1980160206288974728:True:=trivial
theorem main.tw453184122279072053:True:=trivial
theorem main.tw6855474311058116810:True:=trivial
theorem main.tw10199874654664476236:True:=trivial
theorem main.tw2456247091588846565:True:=trivial
theorem main.tw8466321980469482115:True:=trivial
theorem main.tw6112859857366181021:True:=trivial
theorem main.tw5372645768047454471:True:=trivial
theorem main.tw5401703158475992631:True:=trivial
theorem main.tw1777545030009416734:True:=trivial
theorem main.tw11646826074482590764:True:=trivial
theorem main.tw3491332818749588091:True:=trivial
theorem main.tw49674306023711395:True:=trivial
theorem main.tw750237026923860459:True:=trivial
theorem main.tw7074144079889050967:True:=trivial
theorem main.tw12283931031945665480:True:=trivial
theorem main.tw17453503289922162039:True:=trivial
theorem main.tw1270039299266317192:True:=trivial
theorem main.tw8947760058931562597:True:=trivial
theorem main.tw14793117695081215449:True:=trivial
theorem main.tw12463224122652932544:True:=trivial
theorem main.tw18425317256667529438:True:=trivial
theorem main.tw14027531716089632829:True:=trivial
theorem main.tw10123989817122485451:True:=trivial
theorem main.tw7698036289167662538:True:=trivial
theorem main.tw16320215318167395912:True:=trivial
theorem main.tw12139096438432415106:True:=trivial
theorem main.tw14672674291997333471:True:=trivial
theorem main.tw4452170602077327944:True:=trivial
theorem main.tw17057053908230417247:True:=trivial
theorem main.tw4766233809647381661:True:=trivial
theorem main.tw7943094425149488825:True:=trivial
theorem main.tw799486724532869496:True:=trivial
theorem main.tw10169072693733980587:True:=trivial
theorem main.tw16641786646906312760:True:=trivial
theorem main.tw10231336680788121439:True:=trivial
theorem main.tw3613476055612923068:True:=trivial
theorem main.tw14060465935940456498:True:=trivial
theorem main.tw10669944970481658594:True:=trivial
theorem main.tw9897820754763898449:True:=trivial
theorem main.tw16480584520131690045:True:=trivial
theorem main.tw13224007501803129859:True:=trivial
theorem main.tw9515011664573035354:True:=trivial
theorem main.tw11349898740250378076:True:=trivial
theorem main.tw6663778134991626487:True:=trivial
theorem main.tw11962923498438245051:True:=trivial
theorem main.tw7623511443260959870:True:=trivial
theorem main.tw12450111651097656602:True:=trivial
theorem main.tw11218778669853930896:True:=trivial
theorem main.tw7165207203227711834:True:=trivial
theorem main.tw9392487213469676918:True:=trivial
theorem main.tw7699798408344515789:True:=trivial
theorem main.tw12751799325998411230:True:=trivial
theorem main.tw16826212616301561204:True:=trivial
theorem main.tw12992176717851604617:True:=trivial
theorem main.tw10876229203375891673:True:=trivial
theorem main.tw17264900360498390715:True:=trivial
theorem main.tw11261727412033496967:True:=trivial
theorem main.tw5436791530062809996:True:=trivial
theorem main.tw3454311308915712629:True:=trivial
theorem main.tw12885673836220544336:True:=trivial
theorem main.tw18165044119631177899:True:=trivial
theorem main.tw5473700226181020891:True:=trivial
theorem main.tw18031918436515192882:True:=trivial
theorem main.tw16922381011570985944:True:=trivial
theorem main.tw7884331609784382070:True:=trivial
theorem main.tw9302470337196694018:True:=trivial
theorem main.tw13980345723018547825:True:=trivial
theorem main.tw11388154006635350966:True:=trivial
theorem main.tw9069182735580402390:True:=trivial
theorem main.tw12909650291622432550:True:=trivial
theorem main.tw17268439761433841065:True:=trivial
theorem main.tw8729708805864041840:True:=trivial
theorem main.tw5871769198996169552:True:=trivial
theorem main.tw18395943939669218033:True:=trivial
theorem main.tw15955573374722617477:True:=trivial
theorem main.tw9265829497004654079:True:=trivial
theorem main.tw12941917028564957548:True:=trivial
theorem main.tw10755775206947875856:True:=trivial
theorem main.tw11476092923266045095:True:=trivial
theorem main.tw15387884906608193903:True:=trivial
theorem main.tw7186131708394509389:True:=trivial
theorem main.tw6075091234017535682:True:=trivial
theorem main.tw7268301785047649679:True:=trivial
theorem main.tw3934531018447913466:True:=trivial
theorem main.tw5234446048077146213:True:=trivial
theorem main.tw442704067885220732:True:=trivial
theorem main.tw2110754180369666209:True:=trivial
theorem main.tw545269030811804461:True:=trivial
theorem main.tw17561526911342447988:True:=trivial
theorem main.tw14562738103837258888:True:=trivial
theorem main.tw16629339528299215175:True:=trivial
theorem main.tw11092141859048813250:True:=trivial
theorem main.tw3557749057250611081:True:=trivial
theorem main.tw10750994468655217958:True:=trivial
theorem main.tw5400957986263281647:True:=trivial
theorem main.tw1645717771770832407:True:=trivial
theorem main.tw834873547066669988:True:=trivial
theorem main.tw14439473939278146460:True:=trivial
theorem main.tw11712081513822626495:True:=trivial
theorem main.tw6222487380544312443:True:=trivial
theorem main.tw1628013610222277130:True:=trivial
theorem main.tw14439489856276332995:True:=trivial
theorem main.tw3796207824708393856:True:=trivial
theorem main.tw17864028415675338326:True:=trivial
theorem main.tw11221353774195762014:True:=trivial
theorem main.tw12922898485456448571:True:=trivial
theorem main.tw6785657489111691699:True:=trivial
theorem main.tw13593839371638185640:True:=trivial
theorem main.tw3137596982192898869:True:=trivial
theorem main.tw1130211791997205004:True:=trivial
theorem main.tw16778611742570070204:True:=trivial
theorem main.tw6912675738884088206:True:=trivial
theorem main.tw10204856939554784155:True:=trivial
theorem main.tw18332899500509843999:True:=trivial
theorem main.tw1409966394225722968:True:=trivial
theorem main.tw13116522157475607773:True:=trivial
theorem main.tw5243159528196176124:True:=trivial
theorem main.tw15356762974548107741:True:=trivial
theorem main.tw3370190323706015969:True:=trivial
theorem main.tw4297412468100583042:True:=trivial
theorem main.tw3160845607165458772:True:=trivial
theorem main.tw5309058905264134205:True:=trivial
theorem main.tw18120430973489738927:True:=trivial
theorem main.tw13876859957761632879:True:=trivial
theorem main.tw7528692076093279249:True:=trivial
theorem main.tw6877560268529008848:True:=trivial
theorem main.tw10455743928339290457:True:=trivial
theorem main.tw9557352009045844224:True:=trivial
theorem main.tw1161520513448753826:True:=trivial
theorem main.tw12147608041155910273:True:=trivial
theorem main.tw3583811862363856187:True:=trivial
theorem main.tw14064073609400967072:True:=trivial
theorem main.tw12518504611687188807:True:=trivial
theorem main.tw12431731261707249289:True:=trivial
theorem main.tw8478376212529829071:True:=trivial
theorem main.tw11544348965984651327:True:=trivial
theorem main.tw7590696779544312186:True:=trivial
theorem main.tw13348322127785295214:True:=trivial
theorem main.tw5677329702179833609:True:=trivial
theorem main.tw10363585996791799541:True:=trivial
theorem main.tw11501822485730972192:True:=trivial
theorem main.tw9681375758050803366:True:=trivial
theorem main.tw9406782406253462049:True:=trivial
theorem main.tw3466206800631347469:True:=trivial
theorem main.tw18238007617527299592:True:=trivial
theorem main.tw15912133064072535893:True:=trivial
theorem main.tw18302796317244248524:True:=trivial
theorem main.tw11120327062377616369:True:=trivial
theorem main.tw12543713266681445118:True:=trivial
theorem main.tw3706830351922483016:True:=trivial
theorem main.tw15800677430330856352:True:=trivial
theorem main.tw13350764725976880583:True:=trivial
theorem main.tw18178676814319149831:True:=trivial
theorem main.tw9417822746687237092:True:=trivial
theorem main.tw12885385263037960081:True:=trivial
theorem main.tw16102231251864390963:True:=trivial
theorem main.tw4139100593308808776:True:=trivial
theorem main.tw4500915450034043215:True:=trivial
theorem main.tw13110577991587790113:True:=trivial
theorem main.tw10953687544409504101:True:=trivial
theorem main.tw15928290008803537013:True:=trivial
theorem main.tw2496676261509829067:True:=trivial
theorem main.tw6635558491612396129:True:=trivial
theorem main.tw3027586509356016917:True:=trivial
theorem main.tw14168887731352723522:True:=trivial
theorem main.tw10234815189450012239:True:=trivial
theorem main.tw17128291446047057950:True:=trivial
theorem main.tw17679725944135375923:True:=trivial
theorem main.tw15270170921892066516:True:=trivial
theorem main.tw9368617206455126095:True:=trivial
theorem main.tw6508729118710982530:True:=trivial
theorem main.tw2702614204127132176:True:=trivial
theorem main.tw4948327476702027199:True:=trivial
theorem main.tw17510229520200029679:True:=trivial
theorem main.tw3905226178654972811:True:=trivial
theorem main.tw330327031418712150:True:=trivial
theorem main.tw1886080085820668685:True:=trivial
theorem main.tw104360540948158410:True:=trivial
theorem main.tw17403364634526059139:True:=trivial
theorem main.tw4674596521558634119:True:=trivial
theorem main.tw11554813239044494598:True:=trivial
theorem main.tw15734660467963936456:True:=trivial
theorem main.tw14635473669698735251:True:=trivial
theorem main.tw3960113756560652017:True:=trivial
theorem main.tw6674893403203295414:True:=trivial
theorem main.tw17190941658635524449:True:=trivial
theorem main.tw16689149305811164139:True:=trivial
theorem main.tw4749052000479324790:True:=trivial
theorem main.tw12590340796369385619:True:=trivial
theorem main.tw6702130215012162313:True:=trivial
theorem main.tw11982392923317675503:True:=trivial
theorem main.tw6565609875121592624:True:=trivial
theorem main.tw13154001654789283132:True:=trivial
theorem main.tw16923884221124529275:True:=trivial
theorem main.tw8652556701797213591:True:=trivial
theorem main.tw17223442867436993403:True:=trivial
theorem main.tw6655696309031964122:True:=trivial
theorem main.tw15303317825217679618:True:=trivial
theorem main.tw12839114828313443825:True:=trivial
theorem main.tw10149618387772673413:True:=trivial
theorem main.tw16519101796099990279:True:=trivial
theorem main.tw9656510801202774680:True:=trivial
theorem main.tw18325589031809861271:True:=trivial
theorem main.tw1242282695825638017:True:=trivial
theorem main.tw16950194794029067938:True:=trivial
theorem main.tw7751025194823839400:True:=trivial
theorem main.tw11409991511011244131:True:=trivial
theorem main.tw2544328076492683441:True:=trivial
theorem main.tw9756827057097773860:True:=trivial
theorem main.tw2019394398466159022:True:=trivial
theorem main.tw52199770228462824:True:=trivial
theorem main.tw17871620999419790863:True:=trivial
theorem main.tw1054321117371714560:True:=trivial
theorem main.tw5287059835090251167:True:=trivial
theorem main.tw9976160756891316704:True:=trivial
theorem main.tw3314904115985164895:True:=trivial
theorem main.tw1439166485080882:True:=trivial
theorem main.tw48596604365144762:True:=trivial
theorem main.tw961187720498965250:True:=trivial
theorem main.tw6907636171062424033:True:=trivial
theorem main.tw6862492499505807319:True:=trivial
theorem main.tw223528310411579522:True:=trivial
theorem main.tw13219505800766818778:True:=trivial
theorem main.tw17353955331779342651:True:=trivial
theorem main.tw3779293765908593550:True:=trivial
theorem main.tw14504180641510445567:True:=trivial
theorem main.tw11987853993630220354:True:=trivial
theorem main.tw15595112118272840620:True:=trivial
theorem main.tw9360745474812902239:True:=trivial
theorem main.tw7411558596216406370:True:=trivial
theorem main.tw6019089244302038806:True:=trivial
theorem main.tw10707853282979444102:True:=trivial
theorem main.tw2895952525429962455:True:=trivial
theorem main.tw7093617532817203218:True:=trivial
theorem main.tw11815829001073249272:True:=trivial
theorem main.tw6418098437765475518:True:=trivial
theorem main.tw4039676971129161736:True:=trivial
theorem main.tw11710404883906591787:True:=trivial
theorem main.tw11263889718947176889:True:=trivial
theorem main.tw33456957511925785:True:=trivial
theorem main.tw2566753976717531306:True:=trivial
theorem main.tw1236483940969888574:True:=trivial
theorem main.tw5613160597433933154:True:=trivial
theorem main.tw14909365282108701170:True:=trivial
theorem main.tw4839478117068044826:True:=trivial
theorem main.tw7439787175107056256:True:=trivial
theorem main.tw17052023290607921161:True:=trivial
theorem main.tw9730157408454304684:True:=trivial
theorem main.tw65644731488775911:True:=trivial
theorem main.tw16461994057933719463:True:=trivial
theorem main.tw11003572833241299968:True:=trivial
theorem main.tw3626430660855392483:True:=trivial
theorem main.tw12027323910402764344:True:=trivial
theorem main.tw16305672181175384284:True:=trivial
theorem main.tw6788530277367551627:True:=trivial
theorem main.tw12927740378394474205:True:=trivial
theorem main.tw18063282731904131703:True:=trivial
theorem main.tw16251939892948500945:True:=trivial
theorem main.tw358491910552652209:True:=trivial
theorem main.tw16008252555379753968:True:=trivial
theorem main.tw13724616953566380437:True:=trivial
theorem main.tw10665089971535097683:True:=trivial
theorem main.tw9272984997812220495:True:=trivial
theorem main.tw12675357926760492328:True:=trivial
theorem main.tw4900431672193113347:True:=trivial
theorem main.tw9573086628692744296:True:=trivial
theorem main.tw3532412968194664532:True:=trivial
theorem main.tw13591255225166038476:True:=trivial
theorem main.tw6657087868060814:True:=trivial
theorem main.tw8467378866343419333:True:=trivial
theorem main.tw9470667924834194258:True:=trivial
theorem main.tw4189750870438640210:True:=trivial
theorem main.tw13777938177461255882:True:=trivial
theorem main.tw5363903885879670357:True:=trivial
theorem main.tw16049902774474827687:True:=trivial
theorem main.tw18284262389922463811:True:=trivial
theorem main.tw302440914744352476:True:=trivial
theorem main.tw9903775340124721222:True:=trivial
theorem main.tw10177057350305019805:True:=trivial
theorem main.tw17644181745481072423:True:=trivial
theorem main.tw6674386428176565332:True:=trivial
theorem main.tw1453356044741674121:True:=trivial
theorem main.tw2647654807098235363:True:=trivial
theorem main.tw6696893160125735727:True:=trivial
theorem main.tw5548943743634857327:True:=trivial
theorem main.tw10159738436595150677:True:=trivial
theorem main.tw12732289081945773324:True:=trivial
theorem main.tw16193401482309157537:True:=trivial
theorem main.tw2524017781993486291:True:=trivial
theorem main.tw12748397558918655664:True:=trivial
theorem main.tw10625486282989778954:True:=trivial
theorem main.tw13293747886898857621:True:=trivial
theorem main.tw6880717277089553138:True:=trivial
theorem main.tw13113777628852026922:True:=trivial
theorem main.tw9508770018378322450:True:=trivial
theorem main.tw11769729467638558878:True:=trivial
theorem main.tw2279707942289718827:True:=trivial
theorem main.tw5571399437266216444:True:=trivial
theorem main.tw15465920861327815835:True:=trivial
theorem main.tw12057704586751987240:True:=trivial
theorem main.tw10463206416058312583:True:=trivial
theorem main.tw15060185592220127646:True:=trivial
theorem main.tw17272174723667511238:True:=trivial
theorem main.tw1118068078248606362:True:=trivial
theorem main.tw11086099901593105684:True:=trivial
theorem main.tw6733737763892157800:True:=trivial
theorem main.tw10864377008497418100:True:=trivial
theorem main.tw9381277316556691805:True:=trivial
theorem main.tw9840939614602229412:True:=trivial
theorem main.tw387501639795913443:True:=trivial
theorem main.tw11181722664286889309:True:=trivial
theorem main.tw6788695710022549768:True:=trivial
theorem main.tw11403851563620829512:True:=trivial
theorem main.tw15017983477296125989:True:=trivial
theorem main.tw3067759450344833359:True:=trivial
theorem main.tw1504049600530537962:True:=trivial
theorem main.tw16959884160788844718:True:=trivial
theorem main.tw2341703837736514645:True:=trivial
theorem main.tw645136716886899192:True:=trivial
theorem main.tw7846812961960373227:True:=trivial
theorem main.tw18315214858253571532:True:=trivial
theorem main.tw11487549891475536569:True:=trivial
theorem main.tw6664630266143485421:True:=trivial
theorem main.tw8557395850702784662:True:=trivial
theorem main.tw6542085627976250192:True:=trivial
theorem main.tw6541472054586571296:True:=trivial
theorem main.tw15410482203810522393:True:=trivial
theorem main.tw6632538468102435922:True:=trivial
theorem main.tw18385570937342765463:True:=trivial
theorem main.tw8127475511531132179:True:=trivial
theorem main.tw1850612553970854742:True:=trivial
theorem main.tw15580989882048331800:True:=trivial
theorem main.tw13227692790652741651:True:=trivial
theorem main.tw4365514962571936147:True:=trivial
theorem main.tw4038153913678941442:True:=trivial
theorem main.tw10821422270917381399:True:=trivial
theorem main.tw5160751907100791332:True:=trivial
theorem main.tw12077450504624328385:True:=trivial
theorem main.tw2433702464844828792:True:=trivial
theorem main.tw10665469846841522134:True:=trivial
theorem main.tw4333880214566435006:True:=trivial
theorem main.tw1150287232629052791:True:=trivial
theorem main.tw14218914174604095658:True:=trivial
theorem main.tw17974016328880235120:True:=trivial
theorem main.tw16153842264607907944:True:=trivial
theorem main.tw16046730324260685337:True:=trivial
theorem main.tw1615045767204293396:True:=trivial
theorem main.tw3394367416137920725:True:=trivial
theorem main.tw7761410557224570781:True:=trivial
theorem main.tw10825838108423173272:True:=trivial
theorem main.tw1519927702969063271:True:=trivial
theorem main.tw11146036934107921236:True:=trivial
theorem main.tw2921958311620399285:True:=trivial
theorem main.tw7153082081811710619:True:=trivial
theorem main.tw2287757881348798766:True:=trivial
theorem main.tw3234112476842188716:True:=trivial
theorem main.tw11595355409239048105:True:=trivial
theorem main.tw2190695567426971638:True:=trivial
theorem main.tw18134284020713443437:True:=trivial
theorem main.tw18442785490491869365:True:=trivial
theorem main.tw1714950047550659301:True:=trivial
theorem main.tw7691172733374981047:True:=trivial
theorem main.tw8834365191522931223:True:=trivial
theorem main.tw10391951854915411234:True:=trivial
theorem main.tw6183352029847204284:True:=trivial
theorem main.tw1157997071576566072:True:=trivial
theorem main.tw17402982504261768225:True:=trivial
theorem main.tw8707812797481193996:True:=trivial
theorem main.tw6162249291895867263:True:=trivial
theorem main.tw14639212616227390028:True:=trivial
theorem main.tw2821470743931037460:True:=trivial
theorem main.tw14061640607465278742:True:=trivial
theorem main.tw6053611964639427726:True:=trivial
theorem main.tw17091655785135471103:True:=trivial
theorem main.tw12222963475772708484:True:=trivial
theorem main.tw14364048958407549093:True:=trivial
theorem main.tw7514964652732493775:True:=trivial
theorem main.tw6545385358150927430:True:=trivial
theorem main.tw2921621734765799159:True:=trivial
theorem main.tw2225956059507018244:True:=trivial
theorem main.tw3299218664060906527:True:=trivial
theorem main.tw16411370214107742406:True:=trivial
theorem main.tw11374851513655246148:True:=trivial
theorem main.tw7974275031393228247:True:=trivial
theorem main.tw7332330508316399935:True:=trivial
theorem main.tw6511744376749373798:True:=trivial
theorem main.tw17725498274588495791:True:=trivial
theorem main.tw15467891735981029475:True:=trivial
theorem main.tw9253799994812790149:True:=trivial
theorem main.tw2906824675625879941:True:=trivial
theorem main.tw832900586485598795:True:=trivial
theorem main.tw12915833801598196605:True:=trivial
theorem main.tw5665735395497279834:True:=trivial
theorem main.tw18392154025008590481:True:=trivial
theorem main.tw3994622017586750766:True:=trivial
theorem main.tw17118054049896295152:True:=trivial
theorem main.tw15131278010643852716:True:=trivial
theorem main.tw7173623326730630234:True:=trivial
theorem main.tw15984706205718930553:True:=trivial
theorem main.tw13642826006792871662:True:=trivial
theorem main.tw12900284412222446716:True:=trivial
theorem main.tw9808303207383738048:True:=trivial
theorem main.tw6596593509180878263:True:=trivial
theorem main.tw10092017014551392330:True:=trivial
theorem main.tw12224774223927477439:True:=trivial
theorem main.tw9682133043923132273:True:=trivial
theorem main.tw14161005256144132680:True:=trivial
theorem main.tw4990475226369331113:True:=trivial
theorem main.tw5781596087445459943:True:=trivial
theorem main.tw10663580350406149668:True:=trivial
theorem main.tw14662554035588321541:True:=trivial
theorem main.tw8228058824784995430:True:=trivial
theorem main.tw18132893181854203810:True:=trivial
theorem main.tw15485851114877660061:True:=trivial
theorem main.tw892681787802806017:True:=trivial
theorem main.tw1255815211270559930:True:=trivial
theorem main.tw15919795152768357679:True:=trivial
theorem main.tw14097447854668400296:True:=trivial
theorem main.tw15554039934745177238:True:=trivial
theorem main.tw13797323745857372409:True:=trivial
theorem main.tw5203219222101121401:True:=trivial
theorem main.tw4126091431370883743:True:=trivial
theorem main.tw6459208003876673375:True:=trivial
theorem main.tw4458048076830672230:True:=trivial
theorem main.tw5396361742852586263:True:=trivial
section
open PySem.W PyProof.Rows
theorem post_ok (ns : List Int) : PySem.Challenge.rw_xm0334_01.row.claim.post [ofPy (PyData.list (List.map PyData.int ns))] (WData.bool true) [ofPy (PyData.list (List.map PyData.int ns))] = true := by
 wrow_post
theorem raises_ok (args : List WData) (cls : ExcName) : PySem.Challenge.rw_xm0334_01.row.claim.raises args cls = false := by
 refine raisesW_false (fun ct h => ?_) cls
 cases h
set_option maxHeartbeats 8000000 in
set_option Elab.async true in
theorem main : PySem.Challenge.rw_xm0334_01.Holds := by
 w_on
 o_law
 k_head
 (case hw => w_witness2)
 k_go0
 rename_i s₀ _ _ s₁ fa o pm doc kV ho hg KX X V GL T B TE TW _ _ M _ _ hcd ns hs hlay0 hL1 hr1 hl2 _ _ l vs _ hL ra w1 r0 hI hr hcond hcond2 K0 hD h₁ F N0
 have Z := Mine.facts (prog := PySem.Challenge.rw_xm0334_01.row.prog) (w := ‹World›) (l := l) ⟨by kernel_rfl, by kernel_rfl, by kernel_rfl, by kernel_rfl, by kernel_rfl, ⟨by kernel_rfl, by kernel_rfl, fun v => by kernel_rfl⟩⟩ KX (topRead_of T) (by cases w1 with | list h _ => exact ⟨_, h⟩)
 refine Mine.fin_go Z w1 (by omega) F ?_ ⟨rfl, rfl⟩ ?_ ?_ fun s' m' F' hg' ho' => ?_
 ·rfl
 ·kernel_rfl
 ·kernel_rfl
 ·exact goodW_bool F' (hg'.trans hg) (Mine.raises_ok _) (Mine.post_ok _) ho'
end
end Mine
theorem PySem.Challenge.cw_xm0334_01_holds : PySem.Challenge.rw_xm0334_01.Holds :=
 Mine.main
