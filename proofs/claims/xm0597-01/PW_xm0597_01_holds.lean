import PyProof.Rows.All
import Wide.All
import OpenK.AllK
import Wide.FinOn
import PySem.Challenge.RW_xm0597_01
open PySem PySem.W PyProof.Rows
set_option Elab.async false
set_option maxRecDepth 100000
set_option maxHeartbeats 8000000
set_option linter.all false
namespace Mine
abbrev rowR : OpenRow := PySem.Challenge.rw_xm0597_01.row
local macro_rules | `(tactic| o_head ($_ $K $_ $_ $_)) => `(tactic| (contradiction; exact $K))
noncomputable def KF : Params → Frag := by
  refine (fun (_ : False → rowR.Holds) (K : Params → Frag) => K) (fun f => ?h) ?K
  w_on
  km_head
noncomputable def vw : Program := view PySem.Challenge.pw_xm0597_01 [0, 2, 3, 4, 5, 8, 9, 10, 11, 12, 13, 14, 16, 17, 18, 19, 20, 21, 22, 23, 25, 26, 28, 29, 30, 31, 32, 33, 34, 35, 36, 37, 38, 39]
noncomputable def fas : List Addr := [2,3,15,17,18,20,21,22,23,25,26,28,29,30,32,33,35,36,37,39,40,42,43,44,46,47,49,50,51,53,54,56,57,58,61,62,63,66,67,68,70,71,73,74,75,77,78,80,81,82,85,86,87,89,90,92,93,94,97,98,99,102,103,104,107,108,109,112,113,114,117,118,126,127,128,130,131,133,134,135,136,137,138,139,149,150,152,153,155,156,157,159,160,162,163,164,165,166,167,168,171,173,174,176,177,178,180,181,183,184,185,187,188,190,191,192,194,195,197,198,199,202,203,204,207,208,209,211,212,214,215,216,218,219,221,222,223,226,227,228,230,231,233,234,235,237,238,240,241,242,244,245,247,248]
theorem fas_eq : ∀ P, fas = (KF P).map (·.1) := fun _ => by kernel_rfl
noncomputable def loose : List Str := [Str.ofString "BITS", Str.ofString "parts_of_types", Str.ofString "parts_of_usefulness", Str.ofString "Adt"]
noncomputable abbrev Hk : Hook := kmHook KF fas fas_eq [83]
theorem left_f (w : World) : ((fencedOpening treeTable rowR.prog w 3252).bind fun s₀ => (topFrom treeTable rowR.prog (w.withFollow "special-get-raises" false) 3252 s₀).map fun s => (openSeen vw loose (importedModules rowR.prog.main.body) (fun s => xlAt vw [] s && recOk (RowW.records rowR.toRowW) s) true s, Hk.obs s)) = some (openGood vw loose, Hk.val (w.withFollow "special-get-raises" false)) := by
  unfold fencedOpening topFrom
  rw [PySem.W.Fast.te10274390034422433532, PySem.W.Fast.te1435165496053646825, PySem.W.Fast.te14364793385576792824, PySem.W.Fast.te14289696077712309145, PySem.W.Fast.te14082659384304107361, PySem.W.Fast.te4187177175401517315, PySem.W.Fast.te5923862056798008813]
  kernel_rfl
theorem left_t (w : World) : ((fencedOpening treeTable rowR.prog w 3252).bind fun s₀ => (topFrom treeTable rowR.prog (w.withFollow "special-get-raises" true) 3252 s₀).map fun s => (openSeen vw loose (importedModules rowR.prog.main.body) (fun s => xlAt vw [] s && recOk (RowW.records rowR.toRowW) s) true s, Hk.obs s)) = some (openGood vw loose, Hk.val (w.withFollow "special-get-raises" true)) := by
  unfold fencedOpening topFrom
  rw [PySem.W.Fast.te10274390034422433532, PySem.W.Fast.te1435165496053646825, PySem.W.Fast.te14364793385576792824, PySem.W.Fast.te14289696077712309145, PySem.W.Fast.te14082659384304107361, PySem.W.Fast.te4187177175401517315, PySem.W.Fast.te5923862056798008813]
  kernel_rfl
theorem left : LeftO rowR.prog vw loose (fun s => xlAt vw [] s && recOk (RowW.records rowR.toRowW) s) Hk.obs Hk.val 3252 := fun w => by
  have e := World.withFollow_self w "special-get-raises"
  show ((fencedOpening treeTable rowR.prog w 3252).bind (topFrom treeTable rowR.prog w 3252)).map _ = _
  rw [Option.map_bind]
  cases hb : w.params.followText "special-get-raises" with
  | false =>
    rw [hb] at e
    have h := left_f w
    rw [e] at h
    exact h
  | true =>
    rw [hb] at e
    have h := left_t w
    rw [e] at h
    exact h

noncomputable abbrev P0 : Program := PySem.Challenge.pw_xm0597_01

inductive Bs where
  | u8 | bool | never | unit | A | B
  deriving DecidableEq

inductive N3 where
  | n0 | n1 | n2
  deriving DecidableEq
noncomputable def N3.int : N3 → Int
  | .n0 => 0
  | .n1 => 1
  | .n2 => 2

inductive Ty where
  | base (b : Bs)
  | box (b : Bs)
  | ref (b : Bs)
  | pair (b c : Bs)
  | arr (b : Bs) (n : N3)
  | wrap (b : Bs)
  | opt (b : Bs)
  | param
  deriving DecidableEq

inductive AV where
  | none
  | bool (b : Bool)
  | int (i : Int)
  | str (s : Str)
  | tup (xs : List AV)
  | lst (xs : List AV)
  | val (v : Value)
  | loc (i : Nat)
  | inst (C : Addr) (fs : List (Str × AV))
  | dct (ks : List (Str × AV))
  | clo (k : AV)
  | ty (t : Ty)

structure Src where
  a : Int
  b : Int
  lo : 0 ≤ b
  hi : b < 2147483647

inductive OD where
  | lst (xs : List AV)
  | dct (kvs : List (Ty × AV))
  | sdct (kvs : List (Str × AV))
  | src (σ : Src)
  | one (k : Int)

noncomputable abbrev Vars := List (Str × AV)
noncomputable abbrev Own := List OD

inductive Fl where
  | next
  | ret (d : AV)

noncomputable def sv (x : String) : AV := .str (Str.ofString x)
noncomputable def encB : Bs → AV
  | .u8 => .tup [sv "int", sv "u8"]
  | .bool => .tup [sv "bool"]
  | .never => .tup [sv "never"]
  | .unit => .tup [sv "tuple", .tup []]
  | .A => .tup [sv "adt", sv "A", .tup [], .tup []]
  | .B => .tup [sv "adt", sv "B", .tup [], .tup []]
noncomputable def enc : Ty → AV
  | .base b => encB b
  | .box b => .tup [sv "box", encB b]
  | .ref b => .tup [sv "ref", .none, .bool false, encB b]
  | .pair b c => .tup [sv "tuple", .tup [encB b, encB c]]
  | .arr b n => .tup [sv "array", encB b, .int n.int]
  | .wrap b => .tup [sv "adt", sv "W", .tup [], .tup [encB b]]
  | .opt b => .tup [sv "adt", sv "O", .tup [], .tup [encB b]]
  | .param => .tup [sv "param", sv "T"]

noncomputable def no? : AV → Bool
  | .none => true
  | _ => false
noncomputable def bl? : AV → Option Bool
  | .bool b => some b
  | _ => none
noncomputable def in? : AV → Option Int
  | .int i => some i
  | _ => none
noncomputable def num? : AV → Option Int
  | .bool b => some (if b then 1 else 0)
  | .int i => some i
  | _ => none
noncomputable def st? : AV → Option Str
  | .str x => some x
  | _ => none
noncomputable def tu? : AV → Option (List AV)
  | .tup xs => some xs
  | _ => none
noncomputable def li? : AV → Option (List AV)
  | .lst xs => some xs
  | _ => none
noncomputable def seq? : AV → Option (List AV)
  | .lst xs => some xs
  | .tup xs => some xs
  | _ => none
noncomputable def lo? : AV → Option Nat
  | .loc i => some i
  | _ => none
noncomputable def it? : AV → Option (Addr × List (Str × AV))
  | .inst C fs => some (C, fs)
  | _ => none
noncomputable def di? : AV → Option (List (Str × AV))
  | .dct ks => some ks
  | _ => none
noncomputable def co? : AV → Option AV
  | .clo d => some d
  | _ => none
noncomputable def ty? : AV → Option Ty
  | .ty t => some t
  | _ => none
noncomputable def vl? : AV → Option Value
  | .val v => some v
  | _ => none
noncomputable def rf? (d : AV) : Option Addr := (vl? d).bind fun v => match v with
  | .ref a => some a
  | _ => none
noncomputable def unc? {α : Type} : List α → Option (α × List α)
  | x :: xs => some (x, xs)
  | [] => none
noncomputable def one? {α : Type} : List α → Option α
  | [a] => some a
  | _ => none
noncomputable def two? {α : Type} : List α → Option (α × α)
  | [a, b] => some (a, b)
  | _ => none
noncomputable def nat? (i : Int) : Option Nat := match i with
  | .ofNat n => some n
  | _ => none
noncomputable def ix? (d : AV) : Option Nat := (in? d).bind fun i => (nat? i).bind fun n => if n < 100000 then some n else none
noncomputable def in2? (a b : AV) : Option (Int × Int) := (in? a).bind fun i => (in? b).map fun j => (i, j)
noncomputable def st2? (a b : AV) : Option (Str × Str) := (st? a).bind fun i => (st? b).map fun j => (i, j)

mutual
noncomputable def AV.beq : AV → AV → Bool
  | .none, b => no? b
  | .bool a, b => (num? b).any fun j => (if a then 1 else 0) == j
  | .int i, b => (num? b).any fun j => i == j
  | .str x, b => (st? b).any fun y => x == y
  | .tup xs, b => (tu? b).any fun ys => AV.beqs xs ys
  | .lst xs, b => (li? b).any fun ys => AV.beqs xs ys
  | _, _ => false
noncomputable def AV.beqs : List AV → List AV → Bool
  | [], b => b.isEmpty
  | x :: xs, b => (unc? b).any fun p => AV.beq x p.1 && AV.beqs xs p.2
end
mutual
noncomputable def AV.same : AV → AV → Bool
  | .none, b => no? b
  | .bool a, b => (bl? b).any fun c => a == c
  | .int a, b => (in? b).any fun c => a == c
  | .str a, b => (st? b).any fun c => a == c
  | .tup xs, b => (tu? b).any fun ys => AV.sames xs ys
  | .lst xs, b => (li? b).any fun ys => AV.sames xs ys
  | .val _, _ => false
  | .loc i, b => (lo? b).any fun j => i == j
  | .inst C xs, b => (it? b).any fun p => C == p.1 && AV.sameF xs p.2
  | .dct xs, b => (di? b).any fun ys => AV.sameF xs ys
  | .clo a, b => (co? b).any fun c => AV.same a c
  | .ty a, b => (ty? b).any fun c => decide (a = c)
noncomputable def AV.sames : List AV → List AV → Bool
  | [], b => b.isEmpty
  | x :: xs, b => (unc? b).any fun p => AV.same x p.1 && AV.sames xs p.2
noncomputable def AV.sameF : List (Str × AV) → List (Str × AV) → Bool
  | [], b => b.isEmpty
  | (n, x) :: xs, b => (unc? b).any fun p => n == p.1.1 && AV.same x p.1.2 && AV.sameF xs p.2
end

mutual
noncomputable def AV.plain : Nat → AV → Bool
  | _, .none => true
  | _, .bool _ => true
  | _, .int _ => true
  | _, .str x => PyData.strOk x
  | n, .tup xs => decide (0 < n) && AV.plains (n - 1) xs
  | n, .lst xs => decide (0 < n) && AV.plains (n - 1) xs
  | _, _ => false
noncomputable def AV.plains : Nat → List AV → Bool
  | _, [] => true
  | n, x :: xs => AV.plain n x && AV.plains n xs
end

noncomputable def allB : List Bs := [.u8, .bool, .never, .unit, .A, .B]
mutual
noncomputable def AV.norm : AV → AV
  | .ty t => enc t
  | .tup xs => .tup (AV.norms xs)
  | .lst xs => .lst (AV.norms xs)
  | d => d
noncomputable def AV.norms : List AV → List AV
  | [] => []
  | x :: xs => AV.norm x :: AV.norms xs
end

noncomputable def allT : List Ty := allB.map .base ++ allB.map .box ++ allB.map .ref ++ allB.flatMap (fun b => allB.map (.pair b)) ++ allB.flatMap (fun b => [.arr b .n0, .arr b .n1, .arr b .n2]) ++ allB.map .wrap ++ allB.map .opt ++ [.param]
noncomputable def decT₀ (d : AV) : Option Ty := allT.find? fun t => AV.same (enc t) d
noncomputable def decT (d : AV) : Option Ty := match d with
  | .ty t => some t
  | d => decT₀ d
theorem mem_allB (b : Bs) : b ∈ allB := List.mem_of_elem_eq_true (by cases b <;> rfl)
theorem mem_allT (t : Ty) : t ∈ allT := List.mem_of_elem_eq_true (by
  cases t
  case arr b n => cases b <;> cases n <;> rfl
  case pair b c => cases b <;> cases c <;> rfl
  case param => rfl
  all_goals (rename_i b; cases b <;> rfl))

structure Fn where
  params : List Str
  sc : Scope
  body : List Stmt

noncomputable def fnTab : List (Nat × Nat) := [(50, 7), (57, 9), (62, 10), (67, 11), (74, 12), (81, 13), (86, 14), (103, 19), (108, 20), (113, 22), (118, 23),
  (29, 3), (36, 4), (43, 5), (98, 18), (177, 28), (215, 34), (184, 29), (191, 30), (198, 31), (203, 32), (208, 33), (222, 35), (227, 36), (234, 37), (241, 38)]
noncomputable def fnOfStmt : Stmt → Option Fn
  | .FunctionDef _ args body _ _ _ scope _ _ _ => some ⟨args.args.map (·.arg), scope, body⟩
  | _ => none
noncomputable def fnAt (a : Nat) : Option Fn := (fnTab.lookup a).bind fun i => (P0.main.body[i]?).bind fnOfStmt

noncomputable def gtab : List (Str × AV) := [
  (Str.ofString "parts_of", .val (.ref 108)), (Str.ofString "parts_of_types", .val (.ref 50)), (Str.ofString "rebuilt", .val (.ref 57)), (Str.ofString "substituted", .val (.ref 62)),
  (Str.ofString "with_regions", .val (.ref 67)), (Str.ofString "has_more_parts", .val (.ref 74)), (Str.ofString "field_rows", .val (.ref 81)), (Str.ofString "fields_of", .val (.ref 86)),
  (Str.ofString "MOST_TYPES", .int 300), (Str.ofString "ranges_of", .val (.ref 98)), (Str.ofString "constructors", .val (.ref 103)), (Str.ofString "parts_of_usefulness", .val (.ref 108)),
  (Str.ofString "is_signed", .val (.ref 29)), (Str.ofString "max", .val (.builtin "max")), (Str.ofString "sorted", .val (.builtin "sorted")),
  (Str.ofString "BITS", .val (.ref 22)),
  (Str.ofString "least", .val (.ref 36)), (Str.ofString "greatest", .val (.ref 43)),
  (Str.ofString "ways_to_make", .val (.ref 113)), (Str.ofString "has_value", .val (.ref 118)), (Str.ofString "Adt", .val (.ref 137)), (Str.ofString "World", .val (.ref 166)),
  (Str.ofString "_law_pool", .val (.ref 177)), (Str.ofString "_law_take", .val (.ref 184)), (Str.ofString "_law_one", .val (.ref 191)), (Str.ofString "_law_type", .val (.ref 198)),
  (Str.ofString "_law_variants", .val (.ref 203)), (Str.ofString "_law_adt", .val (.ref 208)), (Str.ofString "_law_world", .val (.ref 215)), (Str.ofString "_law_is_empty", .val (.ref 222)),
  (Str.ofString "_law_holds_up", .val (.ref 227)), (Str.ofString "_law_empties", .val (.ref 234)), (Str.ofString "_law_ways", .val (.ref 241)),
  (Str.ofString "len", .val (.builtin "len")), (Str.ofString "range", .val (.type "range")), (Str.ofString "str", .val (.type "str")), (Str.ofString "int", .val (.type "int")),
  (Str.ofString "list", .val (.type "list")), (Str.ofString "tuple", .val (.type "tuple")), (Str.ofString "dict", .val (.type "dict")), (Str.ofString "zip", .val (.type "zip"))]

structure Rec where
  e : Scope → Vars → Own → Expr → Option (AV × Own)
  t : Scope → Vars → Own → Expr → Option (Bool × Own)
  ss : Scope → Vars → Own → List Stmt → Option (Fl × Vars × Own)
  call : AV → List AV → Own → Option (AV × Own)
  fresh : AV → List AV → Own → Option (AV × Own)

noncomputable def Rec.bot : Rec := ⟨fun _ _ _ _ => none, fun _ _ _ _ => none, fun _ _ _ _ => none, fun _ _ _ => none, fun _ _ _ => none⟩

noncomputable def evName (sc : Scope) (vs : Vars) (x : Str) : Option AV :=
  if x == Str.ofString "__debug__" || x == Str.ofString "__classdict__" then none else
  match sc.names.lookup x with
  | some .local | some .cell | some .free => vs.lookup x
  | some .globalImplicit => gtab.lookup x
  | _ => none

noncomputable def isStar : Expr → Bool
  | .Starred .. => true
  | _ => false
noncomputable def Rec.es (R : Rec) (sc : Scope) (vs : Vars) : Own → List Expr → Option (List AV × Own)
  | own, [] => some ([], own)
  | own, e :: r => if isStar e then none else (R.e sc vs own e).bind fun p => (R.es sc vs p.2 r).map fun q => (p.1 :: q.1, q.2)

noncomputable def ol? : OD → Option (List AV)
  | .lst xs => some xs
  | _ => none
noncomputable def od? : OD → Option (List (Ty × AV))
  | .dct kvs => some kvs
  | _ => none
noncomputable def on? : OD → Option Int
  | .one k => some k
  | _ => none
noncomputable def lst? (own : Own) : AV → Option (List AV)
  | .lst xs => some xs
  | .loc i => (own[i]?).bind ol?
  | _ => none

noncomputable def hasKey (kvs : List (Ty × AV)) (t : Ty) : Bool := kvs.any fun kv => kv.1 == t

noncomputable def dep : Nat := 12

noncomputable def deref (own : Own) (d : AV) : AV := match (lo? d).bind fun i => (own[i]?).bind ol? with
  | some xs => .lst xs
  | none => d

noncomputable def cmpIn (own : Own) (a : AV) : AV → Option Bool
  | .dct ks => (st? a).map fun x => (ks.lookup x).isSome
  | .loc i => (own[i]?).bind fun o => (od? o).bind fun kvs => (decT a).map fun t => hasKey kvs t
  | .lst xs => (st? a).bind fun x => if AV.plains dep xs && PyData.strOk x then some (xs.any fun y => AV.beq y (.str x)) else none
  | .tup xs => (st? a).bind fun x => if AV.plains dep xs && PyData.strOk x then some (xs.any fun y => AV.beq y (.str x)) else none
  | _ => none
noncomputable def evCmp (own : Own) (op : CmpOp) (a b : AV) : Option Bool := match op with
  | .Eq => if AV.plain dep (deref own a).norm && AV.plain dep (deref own b).norm then some (AV.beq (deref own a).norm (deref own b).norm) else none
  | .NotEq => if AV.plain dep (deref own a).norm && AV.plain dep (deref own b).norm then some (!AV.beq (deref own a).norm (deref own b).norm) else none
  | .Gt => (in2? a b).map fun p => decide (p.2 < p.1)
  | .Lt => (in2? a b).map fun p => decide (p.1 < p.2)
  | .LtE => (in2? a b).map fun p => decide (p.1 ≤ p.2)
  | .GtE => (in2? a b).map fun p => decide (p.2 ≤ p.1)
  | .In => cmpIn own a b
  | .NotIn => (lo? b).bind fun i => (own[i]?).bind fun o => (od? o).bind fun kvs => (decT a).map fun t => !hasKey kvs t
  | _ => none

noncomputable def evAdd (own : Own) (a b : AV) : Option AV := match in2? a b with
  | some p => some (.int (p.1 + p.2))
  | none => match st2? a b with
    | some p => if p.1.length + p.2.length ≤ 1000 then some (.str (p.1 ++ p.2)) else none
    | none => (lst? own a).bind fun xs => (lst? own b).bind fun ys => if xs.length + ys.length ≤ 100000 then some (.lst (xs ++ ys)) else none
noncomputable def evBin (own : Own) (op : Operator) (a b : AV) : Option AV := match op with
  | .Add => evAdd own a b
  | .Sub => (in2? a b).map fun p => .int (p.1 - p.2)
  | .Mult => (in2? a b).bind fun p => if Builtin.Int.intBits p.1 ≤ 64 || Builtin.Int.intBits p.2 ≤ 64 then some (.int (p.1 * p.2)) else none
  | .Mod => (in2? a b).bind fun p => if p.2 ≠ 0 && p.2.natAbs < 18446744073709551616 then some (.int (p.1.fmod p.2)) else none
  | .FloorDiv => (in2? a b).bind fun p => if p.2 ≠ 0 && p.2.natAbs < 18446744073709551616 then some (.int (p.1.fdiv p.2)) else none
  | .Pow => (in2? a b).bind fun p => if 0 ≤ p.2 && (Builtin.Int.intBits p.1 : Int) * p.2 ≤ 2 ^ 27 then some (.int (p.1 ^ p.2.toNat)) else none
  | _ => none

noncomputable def ownGet (o : OD) (b : AV) : Option AV := match o with
  | .lst xs => (ix? b).bind fun i => xs[i]?
  | .dct kvs => (decT b).bind fun t => kvs.lookup t
  | .sdct kvs => (st? b).bind fun x => kvs.lookup x
  | _ => none
noncomputable def evGet (own : Own) (a b : AV) : Option AV := match a with
  | .tup xs => (ix? b).bind fun i => xs[i]?
  | .lst xs => (ix? b).bind fun i => xs[i]?
  | .dct ks => (st? b).bind fun x => ks.lookup x
  | .str x => (ix? b).bind fun i => x.cps[i]?.map fun c => .str ⟨#[c]⟩
  | .loc j => (own[j]?).bind fun o => ownGet o b
  | .val v => if rf? (.val v) == some 22 then (st? b).bind fun x => if x == Str.ofString "u8" then some (.int 8) else none else none
  | _ => none

noncomputable def attrsOk : List (Addr × Str) := [(137, Str.ofString "params"), (137, Str.ofString "variants"), (137, Str.ofString "is_enum"), (137, Str.ofString "regions"), (166, Str.ofString "adts")]
noncomputable def isVal : AV → Bool
  | .val _ => true
  | _ => false
noncomputable def evAttr (a : AV) (x : Str) : Option AV := (it? a).bind fun p => if attrsOk.any fun e => e.1 == p.1 && e.2 == x then (p.2.lookup x).bind fun d => if isVal d then none else some d else none

noncomputable def nm? : Expr → Option (Str × Pos)
  | .Name x p => some (x, p)
  | _ => none
noncomputable def cl? : Expr → Option (Expr × List Expr × List Keyword × Pos)
  | .Call f a k p => some (f, a, k, p)
  | _ => none
noncomputable def at? : Expr → Option (Expr × Str × Pos)
  | .Attribute o n p => some (o, n, p)
  | _ => none
noncomputable def ct? : Expr → Option Const
  | .Constant c _ _ => some c
  | _ => none
noncomputable def un? : Expr → Option (UnaryOp × Expr)
  | .UnaryOp o x _ => some (o, x)
  | _ => none
noncomputable def lc? : Expr → Option (Expr × List Comprehension × Scope × Pos)
  | .ListComp e g s p => some (e, g, s, p)
  | _ => none
noncomputable def tp? : Expr → Option (List Expr)
  | .Tuple es _ _ => some es
  | _ => none
noncomputable def ls? : Expr → Option (List Expr)
  | .List es _ => some es
  | _ => none
noncomputable def dc? : Expr → Option (List (Option Expr) × List Expr)
  | .Dict ks ws _ => some (ks, ws)
  | _ => none

noncomputable def locN (sc : Scope) (x : Str) : Bool := sc.names.lookup x == some .local
noncomputable def evTarget (sc : Scope) (t : Expr) (d : AV) : Option Vars := match nm? t with
  | some x => if locN sc x.1 then some [(x.1, d)] else none
  | none => (tp? t).bind fun es => (two? es).bind fun e => (nm? e.1).bind fun x => (nm? e.2).bind fun y => (tu? d).bind fun l => (two? l).bind fun ab =>
    if locN sc x.1 && (locN sc y.1 && x.1 != y.1) then some [(x.1, ab.1), (y.1, ab.2)] else none

noncomputable def compGo (tst : Vars → Own → Option (Bool × Own)) (elt : Vars → Own → Option (AV × Own)) (bind : AV → Option Vars) (vs : Vars) : List AV → Own → Option (List AV × Own)
  | [], own => some ([], own)
  | d :: ds, own => (bind d).bind fun b => (tst (b ++ vs) own).bind fun
    | (true, own) => (elt (b ++ vs) own).bind fun (y, own) => (compGo tst elt bind vs ds own).map fun (ys, own) => (y :: ys, own)
    | (false, own) => compGo tst elt bind vs ds own

noncomputable def relabelS (scope sc : Scope) : Scope :=
  { scope with names := scope.names.map fun (n, k) => if (k == .free && sc.kind == .function && sc.names.lookup n == some .cell) then (n, .cell) else (n, k) }

noncomputable def rangeItems (n : Nat) : List AV := (List.range n).map fun (i : Nat) => AV.int (Int.ofNat i)

noncomputable def isTy (n : String) : Option AV → Bool
  | some (.val (.type t)) => t == n
  | _ => false
noncomputable def rng? (e : Expr) : Option ((Str × Pos) × Expr) := (cl? e).bind fun q => (nm? q.1).bind fun f => (one? q.2.1).bind fun a => if q.2.2.1.isEmpty && f.1 == Str.ofString "range" then some (f, a) else none
noncomputable def Rec.src (R : Rec) (sc : Scope) (vs : Vars) (own : Own) (e : Expr) : Option (List AV × Own) := match rng? e with
  | some q => if isTy "range" (evName sc vs q.1.1) then (R.es sc vs own [q.2]).bind fun r => (one? r.1).bind fun d => (in? d).bind fun i => (nat? i).bind fun n => if n ≤ 1000 then some (rangeItems n, r.2) else none else none
  | none => (R.e sc vs own e).bind fun r => (seq? r.1).map fun xs => (xs, r.2)

noncomputable def isSet : Expr → Bool
  | .Set .. => true
  | _ => false

noncomputable def Rec.comp (R : Rec) (sc : Scope) (vs : Vars) (own : Own) (elt : Expr) (g : Comprehension) (scope : Scope) : Option (AV × Own) :=
  if g.is_async == 0 && !isSet g.iter && scope.kind == .function && (scope.names.all fun y => y.2 != .cell && (y.2 != .free || sc.names.lookup y.1 == some .cell || sc.names.lookup y.1 == some .free) && (y.2 != .local || scope.names.lookup y.1 == some .local)) then
    (R.src sc vs own g.iter).bind fun (ds, own) =>
      let sc' := relabelS scope sc
      (compGo (fun vs own => match g.ifs with
          | [] => some (true, own)
          | [c] => R.t sc' vs own c
          | _ => none)
        (fun vs own => R.e sc' vs own elt) (evTarget sc' g.target) (vs.filter fun v => scope.names.lookup v.1 == some .free && sc.names.lookup v.1 != some .local) ds own).bind fun (ys, own) =>
          if ys.length ≤ 1000 then some (.lst ys, own) else none
  else none

noncomputable def strOfInt (i : Int) : Str := Str.ofString (toString i)

noncomputable def lenIs (own : Own) {α : Type} (xs : List α) : Option (AV × Own) := if xs.length ≤ 100000 then some (.int xs.length, own) else none
noncomputable def ownLen (own : Own) (o : OD) : Option (AV × Own) := match o with
  | .lst xs => lenIs own xs
  | .dct xs => lenIs own xs
  | _ => none
noncomputable def evLen (own : Own) (d : AV) : Option (AV × Own) := match d with
  | .loc i => (own[i]?).bind fun o => ownLen own o
  | .lst xs => lenIs own xs
  | .tup xs => lenIs own xs
  | _ => none
noncomputable def evList (own : Own) (d : AV) : Option (AV × Own) := match d with
  | .tup xs => if xs.length ≤ 1000 then some (.lst xs, own) else none
  | .loc i => (own[i]?).bind fun o => (od? o).bind fun xs => if xs.length ≤ 100000 then some (.lst (xs.map fun kv => enc kv.1), own) else none
  | _ => none
noncomputable def evFun (own : Own) (f : String) (ds : List AV) : Option (AV × Own) :=
  if f = "len" then (one? ds).bind fun d => evLen own d
  else if f = "max" then (two? ds).bind fun p => (in2? p.1 p.2).map fun q => (.int (if q.2 > q.1 then q.2 else q.1), own)
  else if f = "sorted" then (one? ds).bind fun d => (lo? d).bind fun i => (own[i]?).bind fun o => (on? o).map fun k => (.lst [.int k], own)
  else none
noncomputable def evType (own : Own) (f : String) (ds : List AV) : Option (AV × Own) := (one? ds).bind fun d =>
  if f = "int" then (num? d).map fun i => (.int i, own)
  else if f = "str" then (in? d).bind fun i => if 0 ≤ i && i < 1000 then some (.str (strOfInt i), own) else none
  else if f = "list" then evList own d
  else if f = "tuple" then (li? d).bind fun xs => if xs.length ≤ 1000 then some (.tup xs, own) else none
  else none
noncomputable def evBuiltin (own : Own) (v : Value) (ds : List AV) : Option (AV × Own) := match v with
  | .builtin f => evFun own f ds
  | .type f => evType own f ds
  | _ => none

noncomputable def setAt (own : Own) (i : Nat) (o : OD) : Own := own.set i o

noncomputable def evPop (own : Own) (i : Nat) (xs : List AV) : Option (AV × Own) := if xs.length ≤ 100000 then xs.getLast?.map fun d => (d, setAt own i (.lst xs.dropLast)) else none
noncomputable def evLst (own : Own) (i : Nat) (xs : List AV) (name : Str) (d : AV) : Option (AV × Own) :=
  if name == Str.ofString "append" then (if xs.length ≤ 100000 then some (.none, setAt own i (.lst (xs ++ [d]))) else none)
  else if name == Str.ofString "extend" then (seq? d).bind fun ys => if xs.length + ys.length ≤ 100000 then some (.none, setAt own i (.lst (xs ++ ys))) else none
  else none
noncomputable def evMethod (own : Own) (o : AV) (name : Str) (args : List AV) : Option (AV × Own) := match o with
  | .loc i => (own[i]?).bind fun o => (ol? o).bind fun xs => match one? args with
    | some d => evLst own i xs name d
    | none => if args.isEmpty && name == Str.ofString "pop" then evPop own i xs else none
  | .dct ks => (two? args).bind fun p => (st? p.1).bind fun x => if name == Str.ofString "get" then some ((ks.lookup x).getD p.2, own) else none
  | _ => none

noncomputable def recvOk (own : Own) : AV → Bool
  | .loc i => (own[i]?).any fun o => (ol? o).isSome
  | .dct _ => true
  | _ => false

mutual
noncomputable def resolve (own : Own) (k : Nat) : AV → Option AV
  | .loc i => if i < k then some (.loc i) else (own[i]?).bind fun o => match o with
    | .lst xs => if closeds 0 xs then some (.lst xs) else none
    | .sdct kvs => if closedF 0 kvs then some (.dct kvs) else none
    | .dct kvs => if kvs.isEmpty then some (.dct []) else none
    | _ => none
  | .tup xs => (resolves own k xs).map .tup
  | .lst xs => (resolves own k xs).map .lst
  | .inst C fs => (resolveF own k fs).map (.inst C)
  | .dct ks => (resolveF own k ks).map .dct
  | .clo d => (resolve own k d).map .clo
  | .ty t => some (.ty t)
  | .none => some .none
  | .bool b => some (.bool b)
  | .int b => some (.int b)
  | .str b => some (.str b)
  | .val b => some (.val b)
noncomputable def resolves (own : Own) (k : Nat) : List AV → Option (List AV)
  | [] => some []
  | d :: ds => (resolve own k d).bind fun d => (resolves own k ds).map fun ds => d :: ds
noncomputable def resolveF (own : Own) (k : Nat) : List (Str × AV) → Option (List (Str × AV))
  | [] => some []
  | (x, d) :: ds => (resolve own k d).bind fun d => (resolveF own k ds).map fun ds => (x, d) :: ds
noncomputable def closed (k : Nat) : AV → Bool
  | .loc i => decide (i < k)
  | .tup xs => closeds k xs
  | .lst xs => closeds k xs
  | .inst _ fs => closedF k fs
  | .dct fs => closedF k fs
  | .clo d => closed k d
  | _ => true
noncomputable def closeds (k : Nat) : List AV → Bool
  | [] => true
  | d :: ds => closed k d && closeds k ds
noncomputable def closedF (k : Nat) : List (Str × AV) → Bool
  | [] => true
  | (_, d) :: ds => closed k d && closedF k ds
end

noncomputable def closedOD (k : Nat) : OD → Bool
  | .lst xs => closeds k xs
  | .dct kvs => kvs.all fun kv => closed k kv.2
  | .sdct kvs => closedF k kvs
  | .src _ => true
  | .one _ => true

noncomputable def zipDict (xs ys : List AV) : Option (List (Str × AV)) := match one? xs with
  | some x => (st? x).bind fun k => (one? ys).map fun d => [(k, d)]
  | none => if xs.isEmpty && ys.isEmpty then some [] else none

noncomputable def ci? (e : Expr) : Option Int := (ct? e).bind fun c => match c with
  | .int i => some i
  | _ => none
noncomputable def neg? (op : UnaryOp) (x : Expr) : Option Int := match op with
  | .USub => ci? x
  | _ => none
noncomputable def okSlice : Expr → Bool
  | .Name .. | .Constant .. | .Subscript .. | .Call .. | .BinOp .. => true
  | _ => false
noncomputable def okBase : Expr → Bool
  | .Name .. | .Subscript .. => true
  | _ => false
noncomputable def rev? : Expr → Bool
  | .Slice lo up st _ => lo.isNone && up.isNone && st.any fun e => (un? e).any fun u => neg? u.1 u.2 == some 1
  | _ => false
noncomputable def zip? (f : Expr) (args : List Expr) : Option (Str × Str × Expr × Expr) := (nm? f).bind fun f => (one? args).bind fun c => (cl? c).bind fun q => (nm? q.1).bind fun z => (two? q.2.1).bind fun ab =>
  if q.2.2.1.isEmpty && (f.1 == Str.ofString "dict" && z.1 == Str.ofString "zip") then some (f.1, z.1, ab.1, ab.2) else none
noncomputable def cAV : Const → Option AV
  | .none => some .none
  | .bool b => some (.bool b)
  | .int i => some (.int i)
  | .str s => some (.str s)
  | _ => none

noncomputable def eCall (R : Rec) (sc : Scope) (vs : Vars) (own : Own) (f : Expr) (args : List Expr) (p'' : Pos) : Option (AV × Own) := match zip? f args with
  | some q => if isTy "dict" (evName sc vs q.1) && isTy "zip" (evName sc vs q.2.1) then
      (R.es sc vs own [q.2.2.1, q.2.2.2]).bind fun r => (two? r.1).bind fun ab => (tu? ab.1).bind fun xs => (tu? ab.2).bind fun ys => (zipDict xs ys).map fun ks => (.dct ks, r.2)
    else none
  | none => match at? f with
    | some q => if (nm? q.1).isSome && (q.2.2.endLine == p''.line && args.length < 20) then
        (R.e sc vs own q.1).bind fun d => if recvOk d.2 d.1 then (R.es sc vs d.2 args).bind fun ds => evMethod ds.2 d.1 q.2.1 ds.1 else none
      else none
    | none => if (nm? f).isSome then (R.e sc vs own f).bind fun g => (R.es sc vs g.2 args).bind fun ds => R.call g.1 ds.1 ds.2 else none

noncomputable def stepE (R : Rec) (sc : Scope) (vs : Vars) (own : Own) : Expr → Option (AV × Own)
  | .Constant c _ _ => (cAV c).map fun d => (d, own)
  | .Name x _ => (evName sc vs x).map fun d => (d, own)
  | .Tuple es _ _ => if es.length ≤ 1000 then (R.es sc vs own es).map fun r => (.tup r.1, r.2) else none
  | .List es _ => if es.length ≤ 1000 then (R.es sc vs own es).map fun r => (.lst r.1, r.2) else none
  | .IfExp t b o _ => (R.t sc vs own t).bind fun c => if c.1 then R.e sc vs c.2 b else R.e sc vs c.2 o
  | .UnaryOp op x _ => (neg? op x).map fun i => (.int (-i), own)
  | .BinOp l op r _ => (R.e sc vs own l).bind fun a => (R.e sc vs a.2 r).bind fun b => (evBin b.2 op a.1 b.1).map fun d => (d, b.2)
  | .Compare l ops rs _ => (one? ops).bind fun op => (one? rs).bind fun r => if behindInMarks op r then none else
    (R.e sc vs own l).bind fun a => (R.e sc vs a.2 r).bind fun b => (evCmp b.2 op a.1 b.1).map fun c => (.bool c, b.2)
  | .Subscript v s _ => if okSlice s then (R.e sc vs own v).bind fun a => (R.e sc vs a.2 s).bind fun b => (evGet b.2 a.1 b.1).map fun d => (d, b.2)
    else if rev? s then (R.e sc vs own v).bind fun a => (li? a.1).bind fun xs => if xs.length ≤ 100000 then some (.lst xs.reverse, a.2) else none
    else none
  | .Attribute v n _ => if okBase v then (R.e sc vs own v).bind fun a => (evAttr a.1 n).map fun d => (d, a.2) else none
  | .ListComp elt gs scope _ => (one? gs).bind fun g => R.comp sc vs own elt g scope
  | .Call f args kws p => if kws.isEmpty then eCall R sc vs own f args p else none
  | _ => none

noncomputable def stepTs (R : Rec) (sc : Scope) (vs : Vars) (op : BoolOp) : Own → List Expr → Option (Bool × Own)
  | own, [] => some (op == .And, own)
  | own, x :: r => (R.t sc vs own x).bind fun (b, own) => match op, b with
    | .And, false => some (false, own)
    | .Or, true => some (true, own)
    | _, _ => stepTs R sc vs op own r

noncomputable def valTest : Expr → Bool
  | .Name .. => true
  | .Call .. => true
  | .Attribute .. => true
  | .Subscript .. => true
  | _ => false

noncomputable def tCmp (R : Rec) (sc : Scope) (vs : Vars) (own : Own) (l : Expr) (ops : List CmpOp) (rs : List Expr) (p : Pos) : Option (Bool × Own) := match two? ops with
  | some o => (two? rs).bind fun r => if lastMarks [o.1, o.2] [r.1, r.2] then none else
    (R.e sc vs own l).bind fun a => (R.e sc vs a.2 r.1).bind fun b => (evCmp b.2 o.1 a.1 b.1).bind fun c =>
      if c then (R.e sc vs b.2 r.2).bind fun c => (evCmp c.2 o.2 b.1 c.1).map fun t => (t, c.2) else some (false, b.2)
  | none => (stepE R sc vs own (.Compare l ops rs p)).bind fun r => (bl? r.1).map fun b => (b, r.2)
noncomputable def stepT (R : Rec) (sc : Scope) (vs : Vars) (own : Own) (e : Expr) : Option (Bool × Own) := if valTest e then (R.e sc vs own e).bind fun r => (bl? r.1).map fun b => (b, r.2) else match e with
  | .UnaryOp op x _ => (match op with
    | .Not => (R.t sc vs own x).map fun b => (!b.1, b.2)
    | _ => none)
  | .BoolOp op es _ => stepTs R sc vs op own es
  | .Compare l ops rs p => tCmp R sc vs own l ops rs p
  | _ => none

noncomputable def kindV (sc : Scope) (x : Str) : Bool := sc.names.lookup x == some .local || sc.names.lookup x == some .cell

noncomputable def isFresh : Option AV → Bool
  | some (.val (.ref 166)) => true
  | some (.val (.ref 177)) => true
  | _ => false

noncomputable def rDict (sc : Scope) (vs : Vars) (own : Own) (ks : List (Option Expr)) (ws : List Expr) : Option (AV × Own) :=
  if ks.isEmpty && ws.isEmpty then some (.loc own.length, own ++ [.dct []])
  else (one? ks).bind fun k => k.bind fun k => (nm? k).bind fun x => (one? ws).bind fun v => if (ct? v).any fun c => c == .bool true then
    (evName sc vs x.1).bind fun d => (in? d).map fun i => (.loc own.length, own ++ [.one i]) else none
noncomputable def frCall (sc : Scope) (vs : Vars) (e : Expr) : Option (Expr × List Expr) := (cl? e).bind fun q => (nm? q.1).bind fun f => if q.2.2.1.isEmpty && isFresh (evName sc vs f.1) then some (q.1, q.2.1) else none
noncomputable def Rec.rhs (R : Rec) (sc : Scope) (vs : Vars) (own : Own) (e : Expr) : Option (AV × Own) := match ls? e with
  | some es => if es.length ≤ 1000 then (R.es sc vs own es).map fun r => (.loc r.2.length, r.2 ++ [.lst r.1]) else none
  | none => match dc? e with
    | some d => rDict sc vs own d.1 d.2
    | none => match frCall sc vs e with
      | some q => (R.e sc vs own q.1).bind fun g => (R.es sc vs g.2 q.2).bind fun ds => R.fresh g.1 ds.1 ds.2
      | none => R.e sc vs own e

noncomputable def Rec.rhss (R : Rec) (sc : Scope) (vs : Vars) (own : Own) (es : List Expr) : Option (List AV × Own) := Rec.es { R with e := R.rhs } sc vs own es

noncomputable def isClo : AV → Bool
  | .clo _ => true
  | _ => false
noncomputable def putOk (sc : Scope) (vs : Vars) (x : Str) : Bool := (sc.names.lookup x == some .local && (vs.lookup x).all fun d => !isClo d) || vs.all fun v => !isClo v.2

noncomputable def setV (x : Str) (d : AV) : Vars → Vars
  | [] => [(x, d)]
  | (y, e) :: r => if y == x then (y, d) :: r else (y, e) :: setV x d r

noncomputable def putD {α : Type} [DecidableEq α] (kvs : List (α × AV)) (h : Bool) (x : α) (d : AV) : List (α × AV) := if h then kvs.map fun kv => if kv.1 = x then (kv.1, d) else kv else kvs ++ [(x, d)]
noncomputable def storeOD (o : OD) (k d : AV) : Option OD := match o with
  | .dct kvs => (match (if kvs.isEmpty then st? k else none) with
    | some x => some (.sdct [(x, d)])
    | none => (decT k).bind fun t => if kvs.length ≤ 100000 then some (.dct (if hasKey kvs t then kvs.map fun kv => if kv.1 = t then (t, d) else kv else kvs ++ [(t, d)])) else none)
  | .sdct kvs => (st? k).bind fun x => if kvs.length ≤ 100000 then some (.sdct (if (kvs.lookup x).isSome then kvs.map fun kv => if kv.1 = x then (kv.1, d) else kv else kvs ++ [(x, d)])) else none
  | .lst xs => (ix? k).bind fun n => if n < xs.length then some (.lst (xs.set n d)) else none
  | _ => none
noncomputable def evStore (own : Own) (j : Nat) (k d : AV) : Option Own := (own[j]?).bind fun o => (storeOD o k d).map fun o' => setAt own j o'
noncomputable def okKey : Expr → Bool
  | .Name .. => true
  | .Constant .. => true
  | _ => false

noncomputable def su? : Expr → Option (Expr × Expr)
  | .Subscript o i _ => some (o, i)
  | _ => none
noncomputable def Rec.put (R : Rec) (sc : Scope) (vs : Vars) (own : Own) (t : Expr) (d : AV) : Option (Vars × Own) := match nm? t with
  | some x => if kindV sc x.1 && putOk sc vs x.1 then some (setV x.1 d vs, own) else none
  | none => (su? t).bind fun q => if okKey q.2 then (R.e sc vs own q.1).bind fun p => (lo? p.1).bind fun j => (R.e sc vs p.2 q.2).bind fun k => (evStore k.2 j k.1 d).map fun own => (vs, own) else none

noncomputable def forGo (x : Str) (body : Vars → Own → Option (Fl × Vars × Own)) : List AV → Vars → Own → Option (Fl × Vars × Own)
  | [], vs, own => some (.next, vs, own)
  | d :: ds, vs, own => (body (setV x d vs) own).bind fun
    | (.next, vs', own) => if vs'.all (fun v => !isClo v.2) then forGo x body ds (vs'.take vs.length) own else none
    | (.ret r, vs', own) => some (.ret r, vs', own)

noncomputable def whileGo (tst : Vars → Own → Option (Bool × Own)) (body : Vars → Own → Option (Fl × Vars × Own)) : Nat → Vars → Own → Option (Fl × Vars × Own)
  | 0, _, _ => none
  | n + 1, vs, own => (tst vs own).bind fun
    | (false, own) => some (.next, vs, own)
    | (true, own) => (body vs own).bind fun
      | (.next, vs', own) => if vs'.all (fun v => !isClo v.2) then whileGo tst body n (vs'.take vs.length) own else none
      | (.ret r, vs', own) => some (.ret r, vs', own)

noncomputable def isComp : Expr → Bool
  | .ListComp .. => true
  | .SetComp .. => true
  | .DictComp .. => true
  | _ => false

noncomputable abbrev posPut : Pos := ⟨63, 4, 64, 42⟩
noncomputable abbrev putScope : Scope := { kind := .function, names := [(Str.ofString "region", .local), (Str.ofString "regions", .free)], isGenerator := false, isCoroutine := false }
noncomputable def rt? : Stmt → Option Expr
  | .Return v _ => v
  | _ => none
noncomputable def putArgs (a : Arguments) : Bool := a.posonlyargs.isEmpty && a.vararg.isNone && a.kwonlyargs.isEmpty && a.kw_defaults.isEmpty && a.kwarg.isNone && a.defaults.isEmpty && (one? a.args).any fun x => x.annotation.isNone && x.arg == Str.ofString "region"
noncomputable def putName (n : Str) (e : Expr) : Bool := (nm? e).any fun x => x.1 == n
noncomputable def putRet (e : Expr) : Bool := (cl? e).any fun q => q.2.2.1.isEmpty && ((two? q.2.1).any fun a => putName (Str.ofString "region") a.1 && putName (Str.ofString "region") a.2) && (at? q.1).any fun m =>
  putName (Str.ofString "regions") m.1 && (m.2.1 == Str.ofString "get" && m.2.2.endLine == q.2.2.2.line)
noncomputable def putBody (b : List Stmt) : Bool := (one? b).any fun s => (rt? s).any putRet
noncomputable def isPut (n : Str) (a : Arguments) (body : List Stmt) (sc : Scope) (b : Str) (p : Pos) : Bool :=
  n == Str.ofString "put_in" && (b == Str.ofString "put_in" && (putArgs a && (putBody body && (sc == putScope && p == posPut))))

noncomputable def turns : Nat := 100000

noncomputable def swp (sc : Scope) (t1 t2 e1 e2 : Expr) : Option Bool := match (nm? t1).bind fun x => (nm? t2).map fun y => (x, y) with
  | some z => if sc.names.lookup z.1.1 == some .local && (sc.names.lookup z.2.1 == some .local && z.1.2.line == z.2.2.line) then
      (if z.1.1 == z.2.1 then none else if foldedForSure 8 e1 && foldedForSure 8 e2 then some false else if constantsAlone 8 e1 && constantsAlone 8 e2 then none else some true)
    else some false
  | none => some false

noncomputable def stepPair (R : Rec) (sc : Scope) (vs : Vars) (own : Own) (t1 t2 e1 e2 : Expr) : Option (Vars × Own) :=
  if vs.any fun v => isClo v.2 then none else (swp sc t1 t2 e1 e2).bind fun sw => (R.rhss sc vs own [e1, e2]).bind fun r => (two? r.1).bind fun ab =>
    if sw then (R.put sc vs r.2 t2 ab.2).bind fun p => R.put sc p.1 p.2 t1 ab.1
    else (R.put sc vs r.2 t1 ab.1).bind fun p => R.put sc p.1 p.2 t2 ab.2

noncomputable def retOwn : Expr → Bool
  | .List [.BinOp .., .Name ..] _ => true
  | _ => false
noncomputable def isCall : Expr → Bool
  | .Call .. => true
  | _ => false
noncomputable def sAssign (R : Rec) (sc : Scope) (vs : Vars) (own : Own) (value : Expr) : Expr → Option (Vars × Own)
  | .Name x p => if kindV sc x && putOk sc vs x then
      (if isComp value then (lc? value).bind fun c => (one? c.2.1).bind fun g => if sc.names.lookup x == some .local && p.line == c.2.2.2.line && !(c.2.2.1.names.any fun (n, k) => n == x && (k == .local || k == .cell)) then
          (R.comp sc vs own c.1 g c.2.2.1).map fun d => (setV x d.1 vs, d.2) else none
      else (R.rhs sc vs own value).map fun d => (setV x d.1 vs, d.2))
    else none
  | .Subscript o i p => if isComp value then none else (R.e sc vs own value).bind fun d => R.put sc vs d.2 (.Subscript o i p) d.1
  | .Tuple ts _ _ => (two? ts).bind fun t => (tp? value).bind fun es => (two? es).bind fun e => stepPair R sc vs own t.1 t.2 e.1 e.2
  | _ => none
noncomputable def stepS (R : Rec) (sc : Scope) (vs : Vars) (own : Own) : Stmt → Option (Fl × Vars × Own)
  | .Return v _ => v.bind fun e => (if retOwn e then R.rhs sc vs own e else R.e sc vs own e).map fun d => (.ret d.1, vs, d.2)
  | .Assign ts value _ => (one? ts).bind fun t => (sAssign R sc vs own value t).map fun r => (.next, r.1, r.2)
  | .If t b o _ => (R.t sc vs own t).bind fun c => if c.1 then R.ss sc vs c.2 b else R.ss sc vs c.2 o
  | .While t b o _ => if o.isEmpty && !vs.any (fun v => isClo v.2) then whileGo (fun vs own => R.t sc vs own t) (fun vs own => R.ss sc vs own b) turns vs own else none
  | .For t it b o _ => (nm? t).bind fun x => if o.isEmpty && (kindV sc x.1 && (vs.all fun v => !isClo v.2) && !isSet it) then (R.src sc vs own it).bind fun d => forGo x.1 (fun vs own => R.ss sc vs own b) d.1 vs d.2 else none
  | .FunctionDef name args body decos returns tparams scope tscope bind p => if decos.isEmpty && returns.isNone && tparams.isEmpty && tscope.isNone && (isPut name args body scope bind p && sc.names.lookup (Str.ofString "put_in") == some .cell && sc.names.lookup (Str.ofString "regions") == some .cell && (vs.all fun v => !isClo v.2)) then
      (vs.lookup (Str.ofString "regions")).map fun d => (.next, setV (Str.ofString "put_in") (.clo d) vs, own) else none
  | .Expr e _ => if isCall e then (R.e sc vs own e).map fun r => (.next, vs, r.2) else none
  | _ => none

noncomputable def stepSs (R : Rec) (sc : Scope) : Vars → Own → List Stmt → Option (Fl × Vars × Own)
  | vs, own, [] => some (.next, vs, own)
  | vs, own, s :: r => (stepS R sc vs own s).bind fun
    | (.next, vs, own) => stepSs R sc vs own r
    | (.ret d, vs, own) => some (.ret d, vs, own)

structure Prims where
  call : AV → List AV → Own → Option (AV × Own)
  fresh : AV → List AV → Own → Option (AV × Own)

noncomputable def fl? : Fl → Option AV
  | .ret d => some d
  | _ => none
noncomputable def runFn (R : Rec) (a : Addr) (args : List AV) (own : Own) : Option (AV × Own) := (fnAt a).bind fun fn =>
  if args.length == fn.params.length then
    (R.ss fn.sc (fn.params.zip args) own fn.body).bind fun r => (fl? r.1).bind fun d => (resolve r.2.2 own.length d).bind fun d => if (r.2.2.take own.length).all (closedOD own.length) then some (d, r.2.2.take own.length) else none
  else none
noncomputable def isNil (d : AV) : Bool := (di? d).any fun ks => ks.isEmpty
noncomputable def own? (R : Rec) (f : AV) (args : List AV) (own : Own) : Option (AV × Own) := match f with
  | .val v => (match rf? (.val v) with
    | some a => runFn R a args own
    | none => evBuiltin own v args)
  | .clo k => if isNil k && (one? args).any no? then some (.none, own) else none
  | _ => none
noncomputable def stepCall (P : Prims) (R : Rec) (f : AV) (args : List AV) (own : Own) : Option (AV × Own) := match P.call f args own with
  | some r => some r
  | none => own? R f args own

noncomputable def step (P : Prims) (R : Rec) : Rec where
  e := stepE R
  t := stepT R
  ss := stepSs R
  call := stepCall P R
  fresh := P.fresh

noncomputable def run (P : Prims) : Nat → Rec
  | 0 => Rec.bot
  | n + 1 => step P (run P n)

section
variable {α β γ : Type} {P : Prop}
theorem nn {r : α} (h : (none : Option α) = some r) : P := nomatch h
theorem ff (h : false = true) : P := nomatch h
@[elab_as_elim] theorem so {M : α → Prop} {a b : α} (h : some a = some b) (k : M a) : M b := Option.some.inj h ▸ k
@[elab_as_elim] theorem sp {M : α → β → Prop} {a c : α} {b d : β} (h : some (a, b) = some (c, d)) (k : M a b) : M c d := so (M := fun p => M p.1 p.2) h k
@[elab_as_elim] theorem pp {M : α → β → Prop} {a c : α} {b d : β} (h : (a, b) = (c, d)) (k : M a b) : M c d := Eq.subst (motive := fun p : α × β => M p.1 p.2) h k
@[elab_as_elim] theorem s3 {M : α → β → γ → Prop} {a a' : α} {b b' : β} {c c' : γ} (h : some (a, b, c) = some (a', b', c')) (k : M a b c) : M a' b' c' := so (M := fun p => M p.1 p.2.1 p.2.2) h k
theorem bind_any {o : Option α} {f : α → Option β} {r : β} (h : o.bind f = some r) (k : ∀ a, o = some a → f a = some r → P) : P := (Option.bind_eq_some_iff.mp h).elim fun a h => k a h.1 h.2
theorem map_any {o : Option α} {f : α → β} {r : β} (h : o.map f = some r) (k : ∀ a, o = some a → f a = r → P) : P := (Option.map_eq_some_iff.mp h).elim fun a h => k a h.1 h.2
@[elab_as_elim] theorem mo {M : β → Prop} {o : Option α} {f : α → β} {r : β} (h : o.map f = some r) (k : ∀ a, o = some a → M (f a)) : M r := map_any h fun a h1 e => e ▸ k a h1
@[elab_as_elim] theorem mp {M : β → γ → Prop} {o : Option α} {f : α → β × γ} {c : β} {d : γ} (h : o.map f = some (c, d)) (k : ∀ a, o = some a → M (f a).1 (f a).2) : M c d := mo (M := fun p => M p.1 p.2) h k
@[elab_as_elim] theorem m3 {δ : Type} {M : β → γ → δ → Prop} {o : Option α} {f : α → β × γ × δ} {c : β} {d : γ} {e : δ} (h : o.map f = some (c, d, e)) (k : ∀ a, o = some a → M (f a).1 (f a).2.1 (f a).2.2) : M c d e := mo (M := fun p => M p.1 p.2.1 p.2.2) h k
theorem pair_is {a c : α} {b d : β} (h : (a, b) = (c, d)) (k : a = c → b = d → P) : P := k (congrArg Prod.fst h) (congrArg Prod.snd h)
theorem some_pair {a c : α} {b d : β} (h : some (a, b) = some (c, d)) (k : a = c → b = d → P) : P := pair_is (Option.some.inj h) k
theorem map_own {o : Option α} {own own' : Own} {d : α} (h : (o.map fun d => (d, own)) = some (d, own')) (k : o = some d → own = own' → P) : P := map_any h fun a h1 e => pair_is e fun e1 e2 => k (e1 ▸ h1) e2
theorem map_two {o : Option (α × γ)} {f : α × γ → β} {r : β} (h : o.map f = some r) (k : ∀ a b, o = some (a, b) → f (a, b) = r → P) : P := map_any h fun x => k x.1 x.2
theorem bind_two {o : Option (α × γ)} {f : α × γ → Option β} {r : β} (h : o.bind f = some r) (k : ∀ a b, o = some (a, b) → f (a, b) = some r → P) : P := bind_any h fun x => k x.1 x.2
theorem ite_any {c : Prop} [Decidable c] {a b : α} {r : α} (h : (if c then a else b) = r) (k : c → a = r → P) (l : ¬ c → b = r → P) : P :=
  (Decidable.em c).elim (fun q => k q ((if_pos q).symm.trans h)) fun q => l q ((if_neg q).symm.trans h)
theorem ite_then {c : Prop} [Decidable c] {a : Option α} {r : α} (h : (if c then a else none) = some r) (k : c → a = some r → P) : P := ite_any h k fun _ => nn
theorem ite_else {c : Prop} [Decidable c] {a : Option α} {r : α} (h : (if c then none else a) = some r) (k : ¬ c → a = some r → P) : P := ite_any h (fun _ => nn) k
theorem and_is {a b : Bool} (h : (a && b) = true) (k : a = true → b = true → P) : P := k (Bool.and_eq_true_iff.mp h).1 (Bool.and_eq_true_iff.mp h).2
theorem and3 {a b c : Bool} (h : (a && (b && c)) = true) (k : a = true → b = true → c = true → P) : P := and_is h fun x y => and_is y fun y z => k x y z
theorem le_is {a b : Nat} (h : decide (a ≤ b) = true) : a ≤ b := of_decide_eq_true h
end
theorem opt_any {α : Type} {o : Option α} {f : α → Bool} (h : o.any f = true) : ∃ a, o = some a ∧ f a = true := by
  cases o with
  | none => exact nomatch h
  | some a => exact ⟨a, rfl, h⟩
theorem nm?_is {e : Expr} {x : Str × Pos} (h : nm? e = some x) : e = .Name x.1 x.2 := by
  cases e <;> first | exact nn h | exact so h rfl
theorem cl?_is {e : Expr} {q : Expr × List Expr × List Keyword × Pos} (h : cl? e = some q) : e = .Call q.1 q.2.1 q.2.2.1 q.2.2.2 := by
  cases e <;> first | exact nn h | exact so h rfl
theorem at?_is {e : Expr} {q : Expr × Str × Pos} (h : at? e = some q) : e = .Attribute q.1 q.2.1 q.2.2 := by
  cases e <;> first | exact nn h | exact so h rfl
theorem ct?_is {e : Expr} {c : Const} (h : ct? e = some c) : ∃ k p, e = .Constant c k p := by
  cases e <;> first | exact nn h | exact so h ⟨_, _, rfl⟩
theorem un?_is {e : Expr} {u : UnaryOp × Expr} (h : un? e = some u) : ∃ p, e = .UnaryOp u.1 u.2 p := by
  cases e <;> first | exact nn h | exact so h ⟨_, rfl⟩
theorem lc?_is {e : Expr} {q : Expr × List Comprehension × Scope × Pos} (h : lc? e = some q) : e = .ListComp q.1 q.2.1 q.2.2.1 q.2.2.2 := by
  cases e <;> first | exact nn h | exact so h rfl
theorem tp?_is {e : Expr} {es : List Expr} (h : tp? e = some es) : ∃ k p, e = .Tuple es k p := by
  cases e <;> first | exact nn h | exact so h ⟨_, _, rfl⟩
theorem ls?_is {e : Expr} {es : List Expr} (h : ls? e = some es) : ∃ p, e = .List es p := by
  cases e <;> first | exact nn h | exact so h ⟨_, rfl⟩
theorem dc?_is {e : Expr} {q : List (Option Expr) × List Expr} (h : dc? e = some q) : ∃ p, e = .Dict q.1 q.2 p := by
  cases e <;> first | exact nn h | exact so h ⟨_, rfl⟩
theorem one?_is {α : Type} {l : List α} {a : α} (h : one? l = some a) : l = [a] := by
  match l, h with
  | [_], h => cases h; rfl
theorem two?_is {α : Type} {l : List α} {a : α × α} (h : two? l = some a) : l = [a.1, a.2] := by
  match l, h with
  | [_, _], h => cases h; rfl
theorem ci?_is {e : Expr} {i : Int} (h : ci? e = some i) : ∃ k p, e = .Constant (.int i) k p := bind_any h fun c h1 h2 => by
  obtain ⟨k, p, rfl⟩ := ct?_is h1
  cases c <;> first | exact nn h2 | exact so h2 ⟨_, _, rfl⟩
theorem neg?_is {op : UnaryOp} {x : Expr} {i : Int} (h : neg? op x = some i) : op = .USub ∧ ∃ k p, x = .Constant (.int i) k p := by
  cases op <;> first | exact nn h | exact ⟨rfl, ci?_is h⟩
theorem rev?_is {e : Expr} (h : rev? e = true) : ∃ k p1 p2 p3, e = .Slice none none (some (.UnaryOp .USub (.Constant (.int 1) k p1) p2)) p3 := by
  cases e with
  | Slice lo up st p =>
    refine and_is h fun h1 h2 => and_is h1 fun h3 h4 => ?_
    obtain ⟨e, rfl, h5⟩ := opt_any h2
    obtain ⟨u, h6, h7⟩ := opt_any h5
    obtain ⟨p2, rfl⟩ := un?_is h6
    obtain ⟨h8, k, p1, h9⟩ := neg?_is (beq_iff_eq.mp h7)
    rw [h8, h9, Option.isNone_iff_eq_none.mp h3, Option.isNone_iff_eq_none.mp h4]
    exact ⟨_, _, _, _, rfl⟩
  | _ => exact nomatch h
theorem zip?_is {f : Expr} {args : List Expr} {q : Str × Str × Expr × Expr} (h : zip? f args = some q) : q.1 = Str.ofString "dict" ∧ q.2.1 = Str.ofString "zip" ∧ ∃ p p' r, f = .Name q.1 p ∧ args = [.Call (.Name q.2.1 p') [q.2.2.1, q.2.2.2] [] r] :=
  bind_any h fun f' h1 h => bind_any h fun c h2 h => bind_any h fun k h3 h => bind_any h fun z h4 h => bind_any h fun ab h5 h => ite_then h fun hc h => and_is hc fun hk hd => and_is hd fun hd hz => by
    cases h
    refine ⟨beq_iff_eq.mp hd, beq_iff_eq.mp hz, f'.2, z.2, k.2.2.2, nm?_is h1, ?_⟩
    rw [one?_is h2, cl?_is h3, nm?_is h4, two?_is h5, List.isEmpty_iff.mp hk]
theorem unc?_is {α : Type} {l : List α} {q : α × List α} (h : unc? l = some q) : l = q.1 :: q.2 := by
  cases l with
  | nil => exact nn h
  | cons a l => cases h; rfl
theorem no?_is {a : AV} (h : no? a = true) : a = .none := by
  cases a <;> first | rfl | exact ff h
theorem bl?_is {a : AV} {b : Bool} (h : bl? a = some b) : a = .bool b := by
  cases a <;> first | exact nn h | exact so h rfl
theorem in?_is {a : AV} {i : Int} (h : in? a = some i) : a = .int i := by
  cases a <;> first | exact nn h | exact so h rfl
theorem st?_is {a : AV} {x : Str} (h : st? a = some x) : a = .str x := by
  cases a <;> first | exact nn h | exact so h rfl
theorem tu?_is {a : AV} {xs : List AV} (h : tu? a = some xs) : a = .tup xs := by
  cases a <;> first | exact nn h | exact so h rfl
theorem li?_is {a : AV} {xs : List AV} (h : li? a = some xs) : a = .lst xs := by
  cases a <;> first | exact nn h | exact so h rfl
theorem seq?_is {a : AV} {xs : List AV} (h : seq? a = some xs) : a = .lst xs ∨ a = .tup xs := by
  cases a <;> first | exact nn h | exact so h (.inl rfl) | exact so h (.inr rfl)
theorem num?_is {a : AV} {i : Int} (h : num? a = some i) : (∃ b, a = .bool b ∧ i = if b then 1 else 0) ∨ a = .int i := by
  cases a <;> first | exact nn h | exact .inl ⟨_, rfl, (Option.some.inj h).symm⟩ | exact so h (.inr rfl)
theorem lo?_is {a : AV} {i : Nat} (h : lo? a = some i) : a = .loc i := by
  cases a <;> first | exact nn h | exact so h rfl
theorem it?_is {a : AV} {p : Addr × List (Str × AV)} (h : it? a = some p) : a = .inst p.1 p.2 := by
  cases a <;> first | exact nn h | exact so h rfl
theorem di?_is {a : AV} {ks : List (Str × AV)} (h : di? a = some ks) : a = .dct ks := by
  cases a <;> first | exact nn h | exact so h rfl
theorem co?_is {a : AV} {d : AV} (h : co? a = some d) : a = .clo d := by
  cases a <;> first | exact nn h | exact so h rfl
theorem ty?_is {a : AV} {t : Ty} (h : ty? a = some t) : a = .ty t := by
  cases a <;> first | exact nn h | exact so h rfl
theorem vl?_is {a : AV} {v : Value} (h : vl? a = some v) : a = .val v := by
  cases a <;> first | exact nn h | exact so h rfl
theorem rf?_is {d : AV} {a : Addr} (h : rf? d = some a) : d = .val (.ref a) := bind_any h fun v h1 h2 => by
  rw [vl?_is h1]
  cases v <;> first | exact nn h2 | exact so h2 rfl
theorem ix?_is {d : AV} {n : Nat} (h : ix? d = some n) : n < 100000 ∧ d = .int (Int.ofNat n) := bind_any h fun i h1 h => bind_any h fun m h2 h => ite_then h fun hm h => so h ⟨hm, by
  rw [in?_is h1]
  cases i <;> first | exact nn h2 | exact so h2 rfl⟩
theorem nat?_is {i : Int} {n : Nat} (h : nat? i = some n) : i = Int.ofNat n := by
  cases i <;> first | exact nn h | exact so h rfl
theorem in2?_is {a b : AV} {p : Int × Int} (h : in2? a b = some p) : a = .int p.1 ∧ b = .int p.2 := bind_any h fun i h1 h => map_any h fun j h2 e => e ▸ ⟨in?_is h1, in?_is h2⟩
theorem st2?_is {a b : AV} {p : Str × Str} (h : st2? a b = some p) : a = .str p.1 ∧ b = .str p.2 := bind_any h fun i h1 h => map_any h fun j h2 e => e ▸ ⟨st?_is h1, st?_is h2⟩
theorem ol?_is {o : OD} {xs : List AV} (h : ol? o = some xs) : o = .lst xs := by
  cases o <;> first | exact nn h | exact so h rfl
theorem od?_is {o : OD} {kvs : List (Ty × AV)} (h : od? o = some kvs) : o = .dct kvs := by
  cases o <;> first | exact nn h | exact so h rfl
theorem on?_is {o : OD} {k : Int} (h : on? o = some k) : o = .one k := by
  cases o <;> first | exact nn h | exact so h rfl
theorem isTy_is {n : String} {o : Option AV} (h : isTy n o = true) : o = some (.val (.type n)) := by
  cases o with
  | none => exact ff h
  | some a => cases a with
    | val v => cases v with
      | type t => rw [beq_iff_eq.mp (show (t == n) = true from h)]
      | _ => exact ff h
    | _ => exact ff h
theorem su?_is {e : Expr} {q : Expr × Expr} (h : su? e = some q) : ∃ p, e = .Subscript q.1 q.2 p := by
  cases e <;> first | exact nn h | exact so h ⟨_, rfl⟩
theorem rng?_is {e : Expr} {q : (Str × Pos) × Expr} (h : rng? e = some q) : ∃ p, e = .Call (.Name q.1.1 q.1.2) [q.2] [] p := bind_any h fun c h1 h => bind_any h fun f h2 h => bind_any h fun a h3 h => ite_then h fun hc h => so h ⟨c.2.2.2, by
  rw [cl?_is h1, nm?_is h2, one?_is h3, List.isEmpty_iff.mp (and_is hc fun x _ => x)]⟩
theorem okBase_is {v : Expr} (h : okBase v = true) (n : Str) (env : Env) : attributeBase v n env (eval v env) = eval v env := by
  cases v <;> first | rfl | exact nomatch h

noncomputable abbrev KK (w : World) : Frag := KF w.params

noncomputable abbrev qPut : Str := Str.ofString "fields_of.<locals>.put_in"

structure PutFn (fd : FuncData) (c : Addr) : Prop where
  params : ∃ q, fd.params = ⟨[], [⟨Str.ofString "region", none, q⟩], none, [], [], none, []⟩
  body : ∃ q1 q2 q3 q4 q5 q6, (q2.endLine == q5.line) = true ∧ fd.body = .stmts [.Return (some (.Call (.Attribute (.Name (Str.ofString "regions") q1) (Str.ofString "get") q2) [.Name (Str.ofString "region") q3, .Name (Str.ofString "region") q4] [] q5)) q6]
  scope : fd.scope = putScope
  closure : fd.closure = [(Str.ofString "regions", c)]
  globals : fd.globals = mainGlobals
  builtins : fd.builtins = builtinsNs
  dflt : fd.defaults = .none
  kwd : fd.kwdefaults = .none
  qual : fd.qualname = qPut

noncomputable def PTup (h : Heap) (a : Addr) (vs : Array Value) : Prop := ∃ n, h.get? a = some { cls := .type "tuple", data := .seq vs n }
noncomputable def PLst (h : Heap) (a : Addr) (vs : Array Value) : Prop := ∃ n, h.get? a = some { cls := .type "list", data := .seq vs n }
theorem PTup.is {h : Heap} {a : Addr} {vs : Array Value} (x : PTup h a vs) : h.IsTuple a vs := let ⟨n, e⟩ := x; ⟨_, e, rfl, n, rfl⟩
theorem PTup.isT {h : Heap} {a : Addr} {vs : Array Value} (x : PTup h a vs) : IsTup h a vs := let ⟨n, e⟩ := x; ⟨_, e, rfl, n, rfl⟩
theorem PLst.is {h : Heap} {a : Addr} {vs : Array Value} (x : PLst h a vs) : h.IsList a vs := let ⟨n, e⟩ := x; ⟨_, e, rfl, n, rfl⟩

mutual
inductive VR (w : World) (h : Heap) (X μ : List Addr) : AV → Value → Prop
  | none : VR w h X μ .none .none
  | bool (b : Bool) : VR w h X μ (.bool b) (.bool b)
  | int (i : Int) (t : Tok) : VR w h X μ (.int i) (.int i t)
  | str (x : Str) (t : Tok) : VR w h X μ (.str x) (.str x t)
  | tup {a : Addr} {vs : Array Value} {xs : List AV} : PTup h a vs → a ∉ X → VRs w h X μ xs vs.toList → VR w h X μ (.tup xs) (.ref a)
  | lst {a : Addr} {vs : Array Value} {xs : List AV} : PLst h a vs → a ∉ X → VRs w h X μ xs vs.toList → VR w h X μ (.lst xs) (.ref a)
  | val (v : Value) : VR w h X μ (.val v) v
  | loc {i : Nat} {a : Addr} : μ[i]? = some a → VR w h X μ (.loc i) (.ref a)
  | inst {a C d : Addr} {es : List DictEntry} {n : Nat} {fs : List (Str × AV)} : h.get? a = some (instObj C d) → h.get? d = some (dictOf es n) → a ∉ X → d ∉ X → VRf w h X μ fs es → VR w h X μ (.inst C fs) (.ref a)
  | dct {a : Addr} {kvs : List (Str × Value)} {ks : List (Str × AV)} : h.DictOf (PySem.strKind P0 w) a kvs → a ∉ X → (a == sysModules) = false → VRk w h X μ ks kvs → VR w h X μ (.dct ks) (.ref a)
  | clo {a c cc : Addr} {o : Obj} {fd : FuncData} {v : Value} {k : AV} : h.get? a = some o → o.cls = .type "function" → o.data = .func fd → PutFn fd c → fd.code = .ref cc → h.CodeRec (.ref cc) qPut → h.IsCell c (some v) → a ∉ X → c ∉ X → cc ∉ X →
      VR w h X μ k v → VR w h X μ (.clo k) (.ref a)
  | ty {v : Value} {t : Ty} : VR w h X μ (enc t) v → VR w h X μ (.ty t) v
inductive VRs (w : World) (h : Heap) (X μ : List Addr) : List AV → List Value → Prop
  | nil : VRs w h X μ [] []
  | cons {v : Value} {vs : List Value} {d : AV} {ds : List AV} : VR w h X μ d v → VRs w h X μ ds vs → VRs w h X μ (d :: ds) (v :: vs)
inductive VRf (w : World) (h : Heap) (X μ : List Addr) : List (Str × AV) → List DictEntry → Prop
  | nil : VRf w h X μ [] []
  | cons {e : DictEntry} {es : List DictEntry} {x : Str} {t : Tok} {d : AV} {ds : List (Str × AV)} : e.key = .str x t → VR w h X μ d e.val → VRf w h X μ ds es → VRf w h X μ ((x, d) :: ds) (e :: es)
inductive VRk (w : World) (h : Heap) (X μ : List Addr) : List (Str × AV) → List (Str × Value) → Prop
  | nil : VRk w h X μ [] []
  | cons {x : Str} {v : Value} {es : List (Str × Value)} {d : AV} {ds : List (Str × AV)} : VR w h X μ d v → VRk w h X μ ds es → VRk w h X μ ((x, d) :: ds) ((x, v) :: es)
end

structure St (W X μ : List Addr) (h : Heap) (X' μ' : List Addr) (h' : Heap) : Prop where
  keep : ∀ a o, h.get? a = some o → a ∉ W → h'.get? a = some o
  live : ∀ a, h'.get? a = none → h.get? a = none
  fresh : ∀ a ∈ X', a ∈ X ∨ h.get? a = none
  pre : ∃ ν, μ' = μ ++ ν ∧ ∀ a ∈ ν, h.get? a = none

inductive CloAt (w : World) (h : Heap) (X μ : List Addr) (k : AV) (a : Addr) : Prop
  | mk (c cc : Addr) (o : Obj) (fd : FuncData) (u : Value) (h1 : h.get? a = some o) (h2 : o.cls = .type "function") (h3 : o.data = .func fd) (h4 : PutFn fd c) (h5 : fd.code = .ref cc) (h6 : h.CodeRec (.ref cc) qPut) (h7 : h.IsCell c (some u)) (r : VR w h X μ k u)
noncomputable def Vw (w : World) (h : Heap) (X μ : List Addr) (v : Value) : AV → Prop
  | .none => v = .none
  | .bool b => v = .bool b
  | .int i => ∃ t, v = .int i t
  | .str x => ∃ t, v = .str x t
  | .tup xs => ∃ a us, v = .ref a ∧ PTup h a us ∧ a ∉ X ∧ VRs w h X μ xs us.toList
  | .lst xs => ∃ a us, v = .ref a ∧ PLst h a us ∧ a ∉ X ∧ VRs w h X μ xs us.toList
  | .val u => v = u
  | .loc i => ∃ a, v = .ref a ∧ μ[i]? = some a
  | .inst C fs => ∃ a d es n, v = .ref a ∧ h.get? a = some (instObj C d) ∧ h.get? d = some (dictOf es n) ∧ a ∉ X ∧ d ∉ X ∧ VRf w h X μ fs es
  | .dct ks => ∃ a kvs, v = .ref a ∧ h.DictOf (PySem.strKind P0 w) a kvs ∧ a ∉ X ∧ (a == sysModules) = false ∧ VRk w h X μ ks kvs
  | .clo k => ∃ a, v = .ref a ∧ CloAt w h X μ k a
  | .ty t => VR w h X μ (enc t) v
section
variable {w : World} {h : Heap} {X μ : List Addr} {v : Value} {d : AV} {M : Value → Prop} {P : Prop}
theorem VR.vw (r : VR w h X μ d v) : Vw w h X μ v d := by
  cases r with
  | none => exact rfl
  | bool b => exact rfl
  | int i t => exact ⟨t, rfl⟩
  | str x t => exact ⟨t, rfl⟩
  | tup a b c => exact ⟨_, _, rfl, a, b, c⟩
  | lst a b c => exact ⟨_, _, rfl, a, b, c⟩
  | val v => exact rfl
  | loc e => exact ⟨_, rfl, e⟩
  | inst a b c d e => exact ⟨_, _, _, _, rfl, a, b, c, d, e⟩
  | dct a b c d => exact ⟨_, _, rfl, a, b, c, d⟩
  | clo h1 h2 h3 h4 h5 h6 h7 _ _ _ r => exact ⟨_, rfl, ⟨_, _, _, _, _, h1, h2, h3, h4, h5, h6, h7, r⟩⟩
  | ty r => exact r
@[elab_as_elim] theorem VR.noneI (r : VR w h X μ .none v) (k : M .none) : M v := (show v = .none from r.vw) ▸ k
@[elab_as_elim] theorem VR.boolI {b : Bool} (r : VR w h X μ (.bool b) v) (k : M (.bool b)) : M v := (show v = .bool b from r.vw) ▸ k
@[elab_as_elim] theorem VR.intI {i : Int} (r : VR w h X μ (.int i) v) (k : ∀ t, M (.int i t)) : M v := Exists.elim r.vw fun t e => e ▸ k t
@[elab_as_elim] theorem VR.strI {x : Str} (r : VR w h X μ (.str x) v) (k : ∀ t, M (.str x t)) : M v := Exists.elim r.vw fun t e => e ▸ k t
@[elab_as_elim] theorem VR.valI {u : Value} (r : VR w h X μ (.val u) v) (k : M u) : M v := (show v = u from r.vw) ▸ k
@[elab_as_elim] theorem VR.locI {i : Nat} (r : VR w h X μ (.loc i) v) (k : ∀ a, μ[i]? = some a → M (.ref a)) : M v := Exists.elim r.vw fun a e => e.1 ▸ k a e.2
@[elab_as_elim] theorem VR.tupI {xs : List AV} (r : VR w h X μ (.tup xs) v) (k : ∀ a us, PTup h a us → a ∉ X → VRs w h X μ xs us.toList → M (.ref a)) : M v := Exists.elim r.vw fun a e => e.elim fun us e => e.1 ▸ k a us e.2.1 e.2.2.1 e.2.2.2
@[elab_as_elim] theorem VR.lstI {xs : List AV} (r : VR w h X μ (.lst xs) v) (k : ∀ a us, PLst h a us → a ∉ X → VRs w h X μ xs us.toList → M (.ref a)) : M v := Exists.elim r.vw fun a e => e.elim fun us e => e.1 ▸ k a us e.2.1 e.2.2.1 e.2.2.2
@[elab_as_elim] theorem VR.instI {C : Addr} {fs : List (Str × AV)} (r : VR w h X μ (.inst C fs) v) (k : ∀ a d es n, h.get? a = some (instObj C d) → h.get? d = some (dictOf es n) → a ∉ X → d ∉ X → VRf w h X μ fs es → M (.ref a)) : M v :=
  Exists.elim r.vw fun a e => e.elim fun d e => e.elim fun es e => e.elim fun n e => e.1 ▸ k a d es n e.2.1 e.2.2.1 e.2.2.2.1 e.2.2.2.2.1 e.2.2.2.2.2
@[elab_as_elim] theorem VR.dctI {ks : List (Str × AV)} (r : VR w h X μ (.dct ks) v) (k : ∀ a kvs, h.DictOf (PySem.strKind P0 w) a kvs → a ∉ X → (a == sysModules) = false → VRk w h X μ ks kvs → M (.ref a)) : M v :=
  Exists.elim r.vw fun a e => e.elim fun kvs e => e.1 ▸ k a kvs e.2.1 e.2.2.1 e.2.2.2.1 e.2.2.2.2
@[elab_as_elim] theorem VR.cloI {d : AV} (r : VR w h X μ (.clo d) v) (k : ∀ a, CloAt w h X μ d a → M (.ref a)) : M v := Exists.elim r.vw fun a e => e.1 ▸ k a e.2
theorem VR.tyI {t : Ty} (r : VR w h X μ (.ty t) v) : VR w h X μ (enc t) v := r.vw

noncomputable def Vws (w : World) (h : Heap) (X μ : List Addr) (us : List Value) : List AV → Prop
  | [] => us = []
  | d :: ds => ∃ u vs, us = u :: vs ∧ VR w h X μ d u ∧ VRs w h X μ ds vs
variable {us : List Value} {ds : List AV} {N : List Value → Prop}
theorem VRs.vw (r : VRs w h X μ ds us) : Vws w h X μ us ds := by
  cases r with
  | nil => exact rfl
  | cons a r => exact ⟨_, _, rfl, a, r⟩
@[elab_as_elim] theorem VRs.nilI (r : VRs w h X μ [] us) (k : N []) : N us := (show us = [] from r.vw) ▸ k
@[elab_as_elim] theorem VRs.consI (r : VRs w h X μ (d :: ds) us) (k : ∀ u vs, VR w h X μ d u → VRs w h X μ ds vs → N (u :: vs)) : N us := Exists.elim r.vw fun u e => e.elim fun vs e => e.1 ▸ k u vs e.2.1 e.2.2
@[elab_as_elim] theorem VRs.oneI (r : VRs w h X μ [d] us) (k : ∀ u, VR w h X μ d u → N [u]) : N us := r.consI fun u _ a r => r.nilI (k u a)
@[elab_as_elim] theorem VRs.twoI {e : AV} (r : VRs w h X μ [d, e] us) (k : ∀ u v, VR w h X μ d u → VR w h X μ e v → N [u, v]) : N us := r.consI fun u _ a r => r.oneI fun v b => k u v a b
theorem VRs.rel {R : AV → Value → Prop} {Rs : List AV → List Value → Prop} (hn : Rs [] []) (hc : ∀ d u ds us, R d u → Rs ds us → Rs (d :: ds) (u :: us)) : ∀ {ds : List AV} {us : List Value}, (∀ d ∈ ds, ∀ u, VR w h X μ d u → R d u) → VRs w h X μ ds us → Rs ds us := by
  intro ds
  induction ds with
  | nil => intro us _ r; exact r.nilI hn
  | cons d ds ih => intro us f r; exact r.consI fun u vs a r => hc _ _ _ _ (f d List.mem_cons_self u a) (ih (fun e he => f e (List.mem_cons_of_mem _ he)) r)
noncomputable def Vwk (w : World) (h : Heap) (X μ : List Addr) (us : List (Str × Value)) : List (Str × AV) → Prop
  | [] => us = []
  | k :: ks => ∃ u vs, us = (k.1, u) :: vs ∧ VR w h X μ k.2 u ∧ VRk w h X μ ks vs
theorem VRk.vw {ks : List (Str × AV)} {us : List (Str × Value)} (r : VRk w h X μ ks us) : Vwk w h X μ us ks := r.casesOn (motive_4 := fun ks us _ => Vwk w h X μ us ks) rfl fun a r => ⟨_, _, rfl, a, r⟩
@[elab_as_elim] theorem VRk.nilI {us : List (Str × Value)} {N : List (Str × Value) → Prop} (r : VRk w h X μ [] us) (k : N []) : N us := (show us = [] from r.vw) ▸ k
@[elab_as_elim] theorem VRk.consI {k : Str × AV} {ks : List (Str × AV)} {us : List (Str × Value)} {N : List (Str × Value) → Prop} (r : VRk w h X μ (k :: ks) us) (f : ∀ u vs, VR w h X μ k.2 u → VRk w h X μ ks vs → N ((k.1, u) :: vs)) : N us := Exists.elim r.vw fun u e => e.elim fun vs e => e.1 ▸ f u vs e.2.1 e.2.2
theorem VRk.lst {ks : List (Str × AV)} {kvs : List (Str × Value)} (r : VRk w h X μ ks kvs) : VRs w h X μ (ks.map (·.2)) (kvs.map (·.2)) ∧ ks.map (·.1) = kvs.map (·.1) := by
  induction ks generalizing kvs with
  | nil => exact r.nilI ⟨.nil, rfl⟩
  | cons k ks ih => exact r.consI fun _ _ a r => ⟨.cons a (ih r).1, congrArg (_ :: ·) (ih r).2⟩
end

section
variable {w : World} {h h' : Heap} {X X' μ μ' W : List Addr}

theorem IsCell.up {h h' : Heap} {c : Addr} {v : Option Value} (q : h.IsCell c v) (k : ∀ o, h.get? c = some o → h'.get? c = some o) : h'.IsCell c v := q.elim fun o e => ⟨o, k o e.1, e.2⟩
theorem CodeRec.up {h h' : Heap} {c : Addr} {n : Str} (q : h.CodeRec (.ref c) n) (k : ∀ o, h.get? c = some o → h'.get? c = some o) : h'.CodeRec (.ref c) n := by
  obtain ⟨c', o, vs, t, e, g, q⟩ := q
  cases e
  exact ⟨c, o, vs, t, rfl, k o g, q⟩
theorem DictOf.up {h h' : Heap} {a : Addr} {K : Type} [DecidableEq K] {knd : KeyKind P0 w K} {kvs : List (K × Value)} (q : h.DictOf knd a kvs) (k : ∀ o, h.get? a = some o → h'.get? a = some o) : h'.DictOf knd a kvs := let ⟨o, es, ep, ho, r⟩ := q; ⟨o, es, ep, k o ho, r⟩
theorem CodeRec.off {h : Heap} {c : Addr} {n : Str} (q : h.CodeRec (.ref c) n) : ∃ o, h.get? c = some o := by
  obtain ⟨c', o, vs, t, e, g, q⟩ := q
  cases e
  exact ⟨o, g⟩
theorem VR.mono (hk : ∀ a o, h.get? a = some o → a ∉ X → a ∉ X' ∧ h'.get? a = some o) (hm : ∃ ν, μ' = μ ++ ν) {v : Value} {d : AV} (r : VR w h X μ d v) : VR w h' X' μ' d v := by
  refine VR.rec (motive_1 := fun d v _ => VR w h' X' μ' d v) (motive_2 := fun d v _ => VRs w h' X' μ' d v) (motive_3 := fun d v _ => VRf w h' X' μ' d v) (motive_4 := fun d v _ => VRk w h' X' μ' d v)
    .none .bool .int .str (fun t ha _ ih => .tup (t.imp fun _ e => (hk _ _ e ha).2) (t.elim fun _ e => (hk _ _ e ha).1) ih) (fun t ha _ ih => .lst (t.imp fun _ e => (hk _ _ e ha).2) (t.elim fun _ e => (hk _ _ e ha).1) ih) .val
    (fun e => .loc (hm.elim fun ν q => q ▸ (List.getElem?_append_left (List.getElem?_eq_some_iff.mp e).1).trans e))
    (fun h1 h2 a1 a2 _ ih => .inst (hk _ _ h1 a1).2 (hk _ _ h2 a2).2 (hk _ _ h1 a1).1 (hk _ _ h2 a2).1 ih)
    (fun t ha hs _ ih => .dct (DictOf.up t fun o e => (hk _ _ e ha).2) (t.elim fun _ t => t.elim fun _ t => t.elim fun _ t => (hk _ _ t.1 ha).1) hs ih)
    (fun h1 h2 h3 h4 h5 h6 h7 a1 a2 a3 _ ih => .clo (hk _ _ h1 a1).2 h2 h3 h4 h5 (CodeRec.up h6 fun o e => (hk _ _ e a3).2) (IsCell.up h7 fun o e => (hk _ _ e a2).2) (hk _ _ h1 a1).1 (h7.elim fun _ e => (hk _ _ e.1 a2).1) ((CodeRec.off h6).elim fun _ e => (hk _ _ e a3).1) ih)
    (fun _ ih => .ty ih) .nil (fun _ _ a b => .cons a b) .nil (fun k _ _ a b => .cons k a b) .nil (fun _ _ a b => .cons a b) r
theorem VRs.mono (hk : ∀ a o, h.get? a = some o → a ∉ X → a ∉ X' ∧ h'.get? a = some o) (hm : ∃ ν, μ' = μ ++ ν) {v : List Value} {d : List AV} (r : VRs w h X μ d v) : VRs w h' X' μ' d v :=
  r.rel .nil (fun _ _ _ _ => .cons) fun _ _ _ r => r.mono hk hm
theorem VRk.mono (hk : ∀ a o, h.get? a = some o → a ∉ X → a ∉ X' ∧ h'.get? a = some o) (hm : ∃ ν, μ' = μ ++ ν) {v : List (Str × Value)} {d : List (Str × AV)} (r : VRk w h X μ d v) : VRk w h' X' μ' d v := by
  induction d generalizing v with
  | nil => exact r.nilI .nil
  | cons k ks ih => exact r.consI fun _ _ a r => .cons (a.mono hk hm) (ih r)

theorem St.nodes (S : St W X μ h X' μ' h') (hW : ∀ a ∈ W, a ∈ X) : ∀ a o, h.get? a = some o → a ∉ X → a ∉ X' ∧ h'.get? a = some o :=
  fun a o ho ha => ⟨fun hx => (S.fresh a hx).elim ha (fun e => by rw [ho] at e; cases e), S.keep a o ho fun hw => ha (hW a hw)⟩
theorem St.own (S : St W X μ h X' μ' h') : ∃ ν, μ' = μ ++ ν := let ⟨ν, e, _⟩ := S.pre; ⟨ν, e⟩
theorem St.vr (S : St W X μ h X' μ' h') (hW : ∀ a ∈ W, a ∈ X) {v : Value} {d : AV} (r : VR w h X μ d v) : VR w h' X' μ' d v := r.mono (S.nodes hW) S.own
theorem St.vrs (S : St W X μ h X' μ' h') (hW : ∀ a ∈ W, a ∈ X) {v : List Value} {d : List AV} (r : VRs w h X μ d v) : VRs w h' X' μ' d v := r.mono (S.nodes hW) S.own

theorem St.refl : St W X μ h X μ h := ⟨fun _ _ e _ => e, fun _ e => e, fun _ e => .inl e, [], (List.append_nil _).symm, fun _ e => by cases e⟩

theorem St.trans {W' X₁ μ₁ X₂ μ₂ : List Addr} {h₁ h₂ : Heap} (S : St W X μ h X₁ μ₁ h₁) (T : St W' X₁ μ₁ h₁ X₂ μ₂ h₂) (hW' : ∀ a ∈ W', a ∈ W ∨ h.get? a = none) : St W X μ h X₂ μ₂ h₂ := by
  refine ⟨fun a o ho ha => T.keep a o (S.keep a o ho ha) fun hw => (hW' a hw).elim ha (fun e => by rw [ho] at e; cases e), fun a e => S.live a (T.live a e), fun a ha => ?_, ?_⟩
  · rcases T.fresh a ha with q | q
    · exact S.fresh a q
    · exact .inr (S.live a q)
  · obtain ⟨ν, e, f⟩ := S.pre
    obtain ⟨ν', e', f'⟩ := T.pre
    refine ⟨ν ++ ν', by rw [e', e, List.append_assoc], fun a ha => ?_⟩
    rcases List.mem_append.mp ha with q | q
    · exact f a q
    · exact S.live a (f' a q)
end

mutual
noncomputable def toPy : AV → PyData
  | .none => .none
  | .bool b => .bool b
  | .int i => .int i
  | .str x => .str x
  | .tup xs => .tuple (toPys xs)
  | .lst xs => .list (toPys xs)
  | _ => .none
noncomputable def toPys : List AV → List PyData
  | [] => []
  | x :: xs => toPy x :: toPys xs
end

theorem plain_seq {n : Nat} {xs : List AV} {P : Prop} (h : (decide (0 < n) && AV.plains (n - 1) xs) = true) (k : 0 < n → AV.plains (n - 1) xs = true → P) : P := and_is h fun a b => k (of_decide_eq_true a) b
section
variable {w : World} {h : Heap} {X μ : List Addr}
theorem VR.reads {v : Value} {d : AV} (n : Nat) (r : VR w h X μ d v) (hp : d.plain n = true) : ∃ as, Reads h v (toPy d) as := by
  revert n
  refine VR.rec (motive_1 := fun d v _ => ∀ n, d.plain n = true → ∃ as, Reads h v (toPy d) as) (motive_2 := fun d v _ => ∀ n, AV.plains n d = true → ∃ as, ReadsAll h v (toPys d) as) (motive_3 := fun _ _ _ => True) (motive_4 := fun _ _ _ => True)
    (fun _ _ => ⟨_, .none⟩) (fun b _ _ => ⟨_, .bool b⟩) (fun i t _ _ => ⟨_, .int i t⟩) (fun i t _ _ => ⟨_, .str i t⟩)
    (fun t _ _ ih n hp => t.elim fun _ ho => plain_seq hp fun _ hp => (ih _ hp).imp fun _ r => .tuple ho rfl rfl r)
    (fun t _ _ ih n hp => t.elim fun _ ho => plain_seq hp fun _ hp => (ih _ hp).elim fun _ r => ⟨_, .list ho rfl rfl r⟩)
    (fun _ _ h => ff h) (fun _ _ h => ff h) (fun _ _ _ _ _ _ _ h => ff h) (fun _ _ _ _ _ _ h => ff h) (fun _ _ _ _ _ _ _ _ _ _ _ _ _ h => ff h) (fun _ _ _ h => ff h)
    (fun _ _ => ⟨_, .nil⟩) (fun _ _ a b n hp => and_is hp fun hp1 hp2 => (a n hp1).elim fun _ q => (b n hp2).elim fun _ q' => ⟨_, .cons q q'⟩) trivial (fun _ _ _ _ _ => trivial) trivial (fun _ _ _ _ => trivial) r
theorem VRs.reads {vs : List Value} {ds : List AV} (n : Nat) (r : VRs w h X μ ds vs) (hp : AV.plains n ds = true) : ∃ as, ReadsAll h vs (toPys ds) as := by
  induction ds generalizing vs with
  | nil => exact r.nilI ⟨_, .nil⟩
  | cons d ds ih => exact and_is hp fun hp1 hp2 => r.consI fun u us a r => (a.reads n hp1).elim fun _ q => (ih r hp2).elim fun _ q' => ⟨_, .cons q q'⟩
end

theorem toPy_ok (n : Nat) (d : AV) (hp : d.plain n = true) : (toPy d).canLay0 = true ∧ (toPy d).depth ≤ n := by
  revert n
  refine AV.rec (motive_1 := fun d => ∀ n, d.plain n = true → (toPy d).canLay0 = true ∧ (toPy d).depth ≤ n) (motive_2 := fun d => ∀ n, AV.plains n d = true → PyData.canLayAll0 (toPys d) = true ∧ PyData.depthAll (toPys d) ≤ n) (motive_3 := fun _ => True) (motive_4 := fun _ => True)
    (fun _ _ => ⟨rfl, Nat.zero_le _⟩) (fun _ _ _ => ⟨rfl, Nat.zero_le _⟩) (fun _ _ _ => ⟨rfl, Nat.zero_le _⟩) (fun _ _ h => ⟨h, Nat.zero_le _⟩)
    (fun _ ih n h => plain_seq h fun h0 h => ⟨(ih _ h).1, Nat.add_le_of_le_sub h0 (ih _ h).2⟩) (fun _ ih n h => plain_seq h fun h0 h => ⟨(ih _ h).1, Nat.add_le_of_le_sub h0 (ih _ h).2⟩)
    (fun _ _ h => ff h) (fun _ _ h => ff h) (fun _ _ _ _ h => ff h) (fun _ _ _ h => ff h) (fun _ _ _ h => ff h) (fun _ _ h => ff h)
    (fun _ _ => ⟨rfl, Nat.zero_le _⟩) (fun _ _ a b n h => and_is h fun h1 h2 => ⟨Bool.and_eq_true_iff.mpr ⟨(a n h1).1, (b n h2).1⟩, Nat.max_le.mpr ⟨(a n h1).2, (b n h2).2⟩⟩) trivial (fun _ _ _ _ => trivial) (fun _ _ _ => trivial) d
theorem toPys_ok (n : Nat) (ds : List AV) (hp : AV.plains n ds = true) : PyData.canLayAll0 (toPys ds) = true ∧ PyData.depthAll (toPys ds) ≤ n := by
  induction ds with
  | nil => exact ⟨rfl, Nat.zero_le _⟩
  | cons d ds ih => exact and_is hp fun h1 h2 => ⟨Bool.and_eq_true_iff.mpr ⟨(toPy_ok n d h1).1, (ih h2).1⟩, Nat.max_le.mpr ⟨(toPy_ok n d h1).2, (ih h2).2⟩⟩

theorem eqv_beq (n k : Nat) (d e : AV) (hd : d.plain n = true) (he : e.plain k = true) : PyData.eqv (toPy d) (toPy e) = AV.beq d e := by
  revert n k e
  refine AV.rec (motive_1 := fun d => ∀ n k e, d.plain n = true → e.plain k = true → PyData.eqv (toPy d) (toPy e) = AV.beq d e) (motive_2 := fun d => ∀ n k e, AV.plains n d = true → AV.plains k e = true → PyData.eqvAll (toPys d) (toPys e) = AV.beqs d e) (motive_3 := fun _ => True) (motive_4 := fun _ => True)
    ?_ ?_ ?_ ?_ ?_ ?_ (fun _ _ _ _ h => ff h) (fun _ _ _ _ h => ff h) (fun _ _ _ _ _ _ h => ff h) (fun _ _ _ _ _ h => ff h) (fun _ _ _ _ _ h => ff h) (fun _ _ _ _ h => ff h) ?_ ?_ trivial (fun _ _ _ _ => trivial) (fun _ _ _ => trivial) d
  · intro n k e _ he; cases e <;> first | rfl | exact ff he
  · intro b n k e _ he; cases e <;> first | rfl | exact ff he | (rename_i c; cases b <;> cases c <;> rfl)
  · intro i n k e _ he; cases e <;> first | rfl | exact ff he
  · intro x n k e _ he; cases e <;> first | rfl | exact ff he
  · intro xs ih n k e hd he
    cases e <;> first | rfl | exact ff he | exact plain_seq hd fun _ hd => plain_seq he fun _ he => ih _ _ _ hd he
  · intro xs ih n k e hd he
    cases e <;> first | rfl | exact ff he | exact plain_seq hd fun _ hd => plain_seq he fun _ he => ih _ _ _ hd he
  · intro n k e _ _; cases e <;> rfl
  · intro x xs h1 h2 n k e hd he
    cases e with
    | nil => rfl
    | cons y ys =>
      refine and_is hd fun d1 d2 => and_is he fun e1 e2 => ?_
      show (PyData.eqv (toPy x) (toPy y) && PyData.eqvAll (toPys xs) (toPys ys)) = (AV.beq x y && AV.beqs xs ys)
      rw [h1 n k y d1 e1, h2 n k ys d2 e2]

theorem AV.same_eq {a b : AV} (h : AV.same a b = true) : a = b := by
  revert b
  refine AV.rec (motive_1 := fun a => ∀ {b}, AV.same a b = true → a = b) (motive_2 := fun a => ∀ {b}, AV.sames a b = true → a = b) (motive_3 := fun a => ∀ {b}, AV.sameF a b = true → a = b) (motive_4 := fun p => ∀ {b}, AV.same p.2 b = true → p.2 = b)
    (fun h => (no?_is h).symm) (fun a _ h => (opt_any h).elim fun c h => beq_iff_eq.mp h.2 ▸ (bl?_is h.1).symm) (fun a _ h => (opt_any h).elim fun c h => beq_iff_eq.mp h.2 ▸ (in?_is h.1).symm) (fun a _ h => (opt_any h).elim fun c h => beq_iff_eq.mp h.2 ▸ (st?_is h.1).symm)
    (fun a ih _ h => (opt_any h).elim fun c h => ih h.2 ▸ (tu?_is h.1).symm) (fun a ih _ h => (opt_any h).elim fun c h => ih h.2 ▸ (li?_is h.1).symm) (fun _ _ h => ff h) (fun a _ h => (opt_any h).elim fun c h => beq_iff_eq.mp h.2 ▸ (lo?_is h.1).symm)
    (fun C a ih _ h => (opt_any h).elim fun c h => and_is h.2 fun h1 h2 => ?_) (fun a ih _ h => (opt_any h).elim fun c h => ih h.2 ▸ (di?_is h.1).symm) (fun a ih _ h => (opt_any h).elim fun c h => ih h.2 ▸ (co?_is h.1).symm) (fun a _ h => (opt_any h).elim fun c h => of_decide_eq_true h.2 ▸ (ty?_is h.1).symm)
    (fun h => (List.isEmpty_iff.mp h).symm) (fun x xs ih1 ih2 _ h => (opt_any h).elim fun p h => and_is h.2 fun h1 h2 => ?_) (fun h => (List.isEmpty_iff.mp h).symm) (fun x xs ih1 ih2 _ h => (opt_any h).elim fun p h => and_is h.2 fun h1 h2 => and_is h1 fun h0 h1 => ?_) (fun _ _ ih _ h => ih h) a
  · rw [it?_is h.1, ← beq_iff_eq.mp h1, ← ih h2]
  · rw [unc?_is h.1, ← ih1 h1, ← ih2 h2]
  · rw [unc?_is h.1, ← ih2 h2]
    obtain ⟨n, y⟩ := x
    obtain ⟨⟨m, z⟩, q⟩ := p
    have e1 : n = m := beq_iff_eq.mp h0
    have e2 : y = z := ih1 h1
    rw [e1, e2]
theorem AV.sames_eq : ∀ {a b : List AV}, AV.sames a b = true → a = b := by
  intro a
  induction a with
  | nil => exact fun h => (List.isEmpty_iff.mp h).symm
  | cons x xs ih => exact fun h => (opt_any h).elim fun p h => and_is h.2 fun h1 h2 => by rw [unc?_is h.1, ← AV.same_eq h1, ← ih h2]
theorem AV.sameF_eq : ∀ {a b : List (Str × AV)}, AV.sameF a b = true → a = b := by
  intro a
  induction a with
  | nil => exact fun h => (List.isEmpty_iff.mp h).symm
  | cons x xs ih =>
    exact fun h => (opt_any h).elim fun p h => and_is h.2 fun h1 h2 => and_is h1 fun h0 h1 => by
      rw [unc?_is h.1, ← ih h2]
      obtain ⟨n, y⟩ := x
      obtain ⟨⟨m, z⟩, q⟩ := p
      have e1 : n = m := beq_iff_eq.mp h0
      have e2 : y = z := AV.same_eq h1
      rw [e1, e2]

mutual
noncomputable def hashAV (w : World) : AV → Int
  | .none => 0xFCA86420
  | .bool b => hashInt (if b then 1 else 0)
  | .int i => hashInt i
  | .str x => hashStr w x
  | .tup xs => reduceHash (Builtin.Tuple.tupleHashOf (hashAVs w xs))
  | _ => 0
noncomputable def hashAVs (w : World) : List AV → List Int
  | [] => []
  | x :: xs => hashAV w x :: hashAVs w xs
end
mutual
noncomputable def drawsAV : AV → Nat
  | .tup xs => drawsAVs xs + 1
  | _ => 1
noncomputable def drawsAVs : List AV → Nat
  | [] => 0
  | x :: xs => drawsAV x + drawsAVs xs
end
mutual
noncomputable def hashable : AV → Bool
  | .none => true
  | .bool _ => true
  | .int _ => true
  | .str _ => true
  | .tup xs => hashables xs
  | _ => false
noncomputable def hashables : List AV → Bool
  | [] => true
  | x :: xs => hashable x && hashables xs
end

section
variable {w : World} {A : Around} {E : Value → Shared → Prop} {s : Shared} {X μ : List Addr}

theorem wp_hash_none {Q : Int → Shared → Prop} (h : Q 0xFCA86420 { s with toks := s.toks + 1 }) : wpAny (model P0 w) A (pyHash .none) Q E s := by
  have hT : s.TypeIs Value.none "NoneType" := rfl
  unfold pyHash
  unfold pyHashByItsType
  refine wpAny_bind (wpAny_cRoomFor_byValue rfl ?_)
  refine wpAny_bind (wpAny_specialOf hT F.slot_NoneType_hash.lookup ?_)
  show wpAny _ _ (if (some (Value.builtin "NoneType.__hash__") == some Value.none) = true then _ else _) Q E s
  rw [if_neg (by rw [beq_builtin_none]; exact Bool.false_ne_true)]
  refine wpAny_bind (wpAny_specialOf hT F.slot_NoneType_hash.lookup ?_)
  show wpAny _ _ (callSpecialIfBoundUnlessNone? .none "__hash__" _ >>= _) Q E s
  refine wpAny_bind (wpAny_callSpecialIfBoundUnlessNone?_slot hT F.slot_NoneType_hash
    (wpAny_call_entry F.slot_NoneType_hash hT F.entry_NoneType_hash
      (show wpAny _ _ (do ret (← mkInt 0xFCA86420)) _ _ s from wpAny_ret_mkInt ?_) (F.args_NoneType_hash_1 _)))
  exact wpAny_pure h

theorem wp_hash_bool {b : Bool} {Q : Int → Shared → Prop} (h : Q (hashInt (if b then 1 else 0)) { s with toks := s.toks + 1 }) : wpAny (model P0 w) A (pyHash (.bool b)) Q E s := by
  have hT : s.TypeIs (Value.bool b) "bool" := rfl
  have hr := rawHash_range (if b then 1 else 0)
  unfold pyHash
  unfold pyHashByItsType
  refine wpAny_bind (wpAny_cRoomFor_byValue rfl ?_)
  refine wpAny_bind (wpAny_specialOf hT F.slot_bool_hash.lookup ?_)
  show wpAny _ _ (if (some (Value.builtin "int.__hash__") == some Value.none) = true then _ else _) Q E s
  rw [if_neg (by rw [beq_builtin_none]; exact Bool.false_ne_true)]
  refine wpAny_bind (wpAny_specialOf hT F.slot_bool_hash.lookup ?_)
  show wpAny _ _ (callSpecialIfBoundUnlessNone? (.bool b) "__hash__" _ >>= _) Q E s
  refine wpAny_bind (wpAny_callSpecialIfBoundUnlessNone?_slot hT F.slot_bool_hash
    (wpAny_call_entry F.slot_bool_hash hT entry_int_hash
      (show wpAny _ _ (do ret (← mkInt (rawHash (if b then 1 else 0)))) _ _ s from wpAny_ret_mkInt ?_) (args_int_hash _)))
  show wpAny _ _ (if (decide (-(2 : Int) ^ 63 ≤ rawHash (if b then 1 else 0)) && decide (rawHash (if b then 1 else 0) < 2 ^ 63)) = true then _ else _) Q E _
  rw [if_pos (by rw [decide_eq_true hr.1, decide_eq_true hr.2]; rfl)]
  exact wpAny_pure h

theorem hashAVs_append (w : World) (xs ys : List AV) : hashAVs w (xs ++ ys) = hashAVs w xs ++ hashAVs w ys := by
  induction xs with
  | nil => rfl
  | cons x xs ih => exact congrArg (_ :: ·) ih
theorem drawsAVs_append (xs ys : List AV) : drawsAVs (xs ++ ys) = drawsAVs xs + drawsAVs ys := by
  induction xs with
  | nil => exact (Nat.zero_add _).symm
  | cons x xs ih => exact (congrArg (drawsAV x + ·) ih).trans (Nat.add_assoc _ _ _).symm

inductive HashMid (w : World) (X μ : List Addr) (s : Shared) (n : Nat) (xs : List AV) (rest : List Value) (b : Array Int) (s' : Shared) : Prop
  | mk (done left : List AV) (e : xs = done ++ left) (r : VRs w s.heap X μ left rest) (b : b.toList = hashAVs w done) (h : hashables left = true) (p : AV.plains n left = true) (s : s' = { s with toks := s.toks + drawsAVs done })

theorem wp_hash : ∀ (n : Nat) (d : AV) {A : Around} {E : Value → Shared → Prop} {s : Shared} {v : Value} {Q : Int → Shared → Prop}, VR w s.heap X μ d v → hashable d = true → d.plain n = true → A.units + n + 1 < cLine →
    Q (hashAV w d) { s with toks := s.toks + drawsAV d } → wpAny (model P0 w) A (pyHash v) Q E s := by
  intro n
  induction n using Nat.strongRecOn with
  | _ n ih =>
    intro d A E s v Q r hh hp hu h
    cases d with
    | none => exact r.noneI (wp_hash_none h)
    | bool b => exact r.boolI (wp_hash_bool h)
    | int i => exact r.intI fun t => wpAny_pyHash_int h
    | str x => exact r.strI fun t => wpAny_pyHash_str h
    | tup xs =>
      refine plain_seq hp fun h0 hp => r.tupI fun a items hT' ha hs => ?_
      have hT : s.TypeIs (.ref a) "tuple" := let ⟨o, ho, hc, _⟩ := hT'.is; ⟨o, ho, hc⟩
      obtain ⟨o, ho, hc, k, hd⟩ := hT'.is
      unfold pyHash
      unfold pyHashByItsType
      refine wpAny_bind (wpAny_cRoomFor_or (.inr (by omega)) ?_)
      refine wpAny_bind (wpAny_specialOf hT F.slot_tuple_hash.lookup ?_)
      show wpAny _ _ (if (some (Value.builtin "tuple.__hash__") == some Value.none) = true then _ else _) Q E s
      rw [if_neg (by rw [beq_builtin_none]; exact Bool.false_ne_true)]
      refine wpAny_bind (wpAny_specialOf hT F.slot_tuple_hash.lookup ?_)
      show wpAny _ _ (callSpecialIfBoundUnlessNone? (.ref a) "__hash__" _ >>= _) Q E s
      refine wpAny_bind (wpAny_callSpecialIfBoundUnlessNone?_slot hT F.slot_tuple_hash (wpAny_call_entry F.slot_tuple_hash hT F.entry_tuple_hash ?_ (F.args_tuple_hash_1 _)))
      show wpAny _ _ (Builtin.Tuple.tupleItemsOf (.ref a) >>= _) _ _ s
      refine wpAny_bind (wpAny_tupleItemsOf ho hd ?_)
      refine wpAny_bind ?_
      rw [← Array.forIn_toList]
      refine wpAny_forIn_list _ (fun rest (b : Array Int) s' => HashMid w X μ s (n - 1) xs rest b s') _ ?_ ?_ _ _ ⟨[], xs, rfl, hs, rfl, hh, hp, rfl⟩
      · rintro x rest b s' ⟨done, left, e, hl, hb, hh', hp', rfl⟩
        cases left with
        | nil => exact (List.cons_ne_nil _ _ hl.vw).elim
        | cons d left' =>
          refine and_is hh' fun h1 h2 => and_is hp' fun p1 p2 => ?_
          obtain ⟨_, _, e', hd1, hl'⟩ := hl.vw
          obtain ⟨rfl, rfl⟩ := List.cons.inj e'
          have fin : HashMid w X μ s (n - 1) xs rest (b.push (hashAV w d)) { s with toks := s.toks + drawsAVs done + drawsAV d } := ⟨done ++ [d], left', by rw [e]; simp, hl', by rw [hashAVs_append, Array.toList_push, hb]; rfl, h2, p2, by rw [drawsAVs_append, ← Nat.add_assoc]; rfl⟩
          refine wpAny_bind (ih (n - 1) (by omega) d (s := { s with toks := s.toks + drawsAVs done }) hd1 h1 p1 (by show A.units + 1 + (n - 1) + 1 < cLine; omega) ?_)
          first
            | exact wpAny_pure fin
            | exact wpAny_bind (wpAny_pure (wpAny_pure fin))
      · rintro b s' ⟨done, left, e, hl, hb, hh', hp', rfl⟩
        cases left with
        | cons d left' => exact hl.vw.elim fun _ e => e.elim fun _ e => (List.cons_ne_nil _ _ e.1.symm).elim
        | nil =>
          rw [List.append_nil] at e
          subst e
          show wpAny _ _ (retInt (Builtin.Tuple.tupleHashOf b.toList)) _ _ _
          rw [hb]
          refine wpAny_ret_mkInt ?_
          have h : Q (reduceHash (Builtin.Tuple.tupleHashOf (hashAVs w xs))) { s with toks := s.toks + drawsAVs xs + 1 } := h
          generalize Builtin.Tuple.tupleHashOf (hashAVs w xs) = z at h ⊢
          unfold reduceHash at h
          show wpAny _ _ (if (decide (-(2 : Int) ^ 63 ≤ z) && decide (z < 2 ^ 63)) = true then _ else _) Q E _
          by_cases hr : (decide (-(2 : Int) ^ 63 ≤ z) && decide (z < 2 ^ 63)) = true
          · rw [if_pos hr] at h ⊢
            exact wpAny_pure h
          · rw [if_neg hr] at h ⊢
            exact wpAny_bind (wpAny_rule (wpAny_pure h))
    | _ => exact ff hh
end

theorem beq_enc_all : (allT.all fun s => allT.all fun t => AV.beq (enc s) (enc t) == decide (s = t)) = true := by decide +kernel
theorem beq_enc (s t : Ty) : AV.beq (enc s) (enc t) = decide (s = t) := by
  have := List.all_eq_true.mp (List.all_eq_true.mp beq_enc_all s (mem_allT s)) t (mem_allT t)
  exact beq_iff_eq.mp this
theorem plain_enc_all : (allT.all fun s => AV.plain 4 (enc s) && hashable (enc s)) = true := by decide +kernel
theorem plain_enc (s : Ty) : AV.plain 4 (enc s) = true := (Bool.and_eq_true_iff.mp (List.all_eq_true.mp plain_enc_all s (mem_allT s))).1
theorem hashable_enc (s : Ty) : hashable (enc s) = true := (Bool.and_eq_true_iff.mp (List.all_eq_true.mp plain_enc_all s (mem_allT s))).2
theorem dec_enc_all : (allT.all fun s => decide (decT (enc s) = some s)) = true := by decide +kernel
theorem dec_enc (s : Ty) : decT (enc s) = some s := of_decide_eq_true (List.all_eq_true.mp dec_enc_all s (mem_allT s))
theorem decT_eq {d : AV} {t : Ty} (h : decT₀ d = some t) : d = enc t := (AV.same_eq (List.find?_some (p := fun t => AV.same (enc t) d) h)).symm

section

theorem vr_dec {w : World} {h : Heap} {X μ : List Addr} {v : Value} {d : AV} {t : Ty} (e : decT d = some t) (r : VR w h X μ d v) : VR w h X μ (enc t) v := by
  have key : ∀ d, decT₀ d = some t → VR w h X μ d v → VR w h X μ (enc t) v := fun d e r => decT_eq e ▸ r
  cases d with
  | ty u => exact so e r.tyI
  | _ => exact key _ e r
theorem VR.norm {w : World} {h : Heap} {X μ : List Addr} {v : Value} {d : AV} (r : VR w h X μ d v) : VR w h X μ d.norm v :=
  VR.rec (motive_1 := fun d v _ => VR w h X μ d.norm v) (motive_2 := fun d v _ => VRs w h X μ (AV.norms d) v) (motive_3 := fun _ _ _ => True) (motive_4 := fun _ _ _ => True)
    .none .bool .int .str (fun a b _ ih => .tup a b ih) (fun a b _ ih => .lst a b ih) .val .loc (fun a b c d r _ => .inst a b c d r) (fun a b c r _ => .dct a b c r) (fun a1 a2 a3 a4 a5 a6 a7 a8 a9 a10 r _ => .clo a1 a2 a3 a4 a5 a6 a7 a8 a9 a10 r) (fun r _ => r)
    .nil (fun _ _ a b => .cons a b) trivial (fun _ _ _ _ _ => trivial) trivial (fun _ _ _ _ => trivial) r
theorem VRs.norm {w : World} {h : Heap} {X μ : List Addr} {v : List Value} {d : List AV} (r : VRs w h X μ d v) : VRs w h X μ (AV.norms d) v :=
  r.rel (Rs := fun d v => VRs w h X μ (AV.norms d) v) .nil (fun _ _ _ _ => .cons) fun _ _ _ r => r.norm

variable {w : World} {h : Heap} {X μ : List Addr}
theorem VR.plain_at {X' μ' : List Addr} (n : Nat) {v : Value} {d : AV} (hX : ∀ a, (∃ o vs k, h.get? a = some o ∧ o.data = .seq vs k) → a ∉ X → a ∉ X') (hp : d.plain n = true) (r : VR w h X μ d v) : VR w h X' μ' d v := by
  revert n
  exact VR.rec (motive_1 := fun d v _ => ∀ n, d.plain n = true → VR w h X' μ' d v) (motive_2 := fun d v _ => ∀ n, AV.plains n d = true → VRs w h X' μ' d v) (motive_3 := fun _ _ _ => True) (motive_4 := fun _ _ _ => True)
    (fun _ _ => .none) (fun b _ _ => .bool b) (fun i t _ _ => .int i t) (fun i t _ _ => .str i t) (fun t a _ ih n hp => plain_seq hp fun _ hp => .tup t (hX _ (t.elim fun _ e => ⟨_, _, _, e, rfl⟩) a) (ih _ hp)) (fun t a _ ih n hp => plain_seq hp fun _ hp => .lst t (hX _ (t.elim fun _ e => ⟨_, _, _, e, rfl⟩) a) (ih _ hp))
    (fun _ _ h => ff h) (fun _ _ h => ff h) (fun _ _ _ _ _ _ _ h => ff h) (fun _ _ _ _ _ _ h => ff h) (fun _ _ _ _ _ _ _ _ _ _ _ _ _ h => ff h) (fun _ _ _ h => ff h)
    (fun _ _ => .nil) (fun _ _ a b n hp => and_is hp fun hp1 hp2 => .cons (a n hp1) (b n hp2)) trivial (fun _ _ _ _ _ => trivial) trivial (fun _ _ _ _ => trivial) r
theorem VR.avoid1 {x : Addr} {n : Nat} {v : Value} {d : AV} (hx : ∀ o, h.get? x = some o → ∀ vs k, o.data ≠ .seq vs k) (hp : d.plain n = true) (r : VR w h X μ d v) : VR w h (x :: X) μ d v :=
  r.plain_at n (fun a ⟨o, vs, k, e, q⟩ ha hm => (List.mem_cons.mp hm).elim (fun z => hx o (z ▸ e) vs k q) ha) hp
theorem VR.weak {X' : List Addr} (hX : ∀ a ∈ X', a ∈ X) {v : Value} {d : AV} (r : VR w h X μ d v) : VR w h X' μ d v := r.mono (fun _ _ ho ha => ⟨fun q => ha (hX _ q), ho⟩) ⟨[], (List.append_nil _).symm⟩
end

section
variable {w : World} {A : Around} {E : Value → Shared → Prop} {s : Shared} {X μ : List Addr}
theorem wp_eqBool {a b : Value} {d e : AV} {n : Nat} {Q : Bool → Shared → Prop} (ra : VR w s.heap X μ d a) (rb : VR w s.heap X μ e b) (hd : d.plain n = true) (he : e.plain n = true) (hu : A.units + n < cLine) (h : Q (AV.beq d e) s) :
    wpAny (model P0 w) A (eqBool a b) Q E s := by
  obtain ⟨as, r1⟩ := ra.reads n hd
  obtain ⟨bs, r2⟩ := rb.reads n he
  have o1 := toPy_ok n d hd
  have o2 := toPy_ok n e he
  have := o1.2
  have := o2.2
  refine SeqAt.eqBoolOverData P0 w A E s a b _ _ as bs Q r1 r2 o1.1 o2.1 (by omega) ?_
  rw [eqv_beq n n d e hd he]; exact h

theorem quiet_atom {k : Nat} {A : Around} {E : Value → Shared → Prop} {v : Value} {Q : Bool → Shared → Prop} (e : eqIsQuiet k v = pure true) (h : Q true s) : wpAny (model P0 w) A (eqIsQuiet k v) Q E s := by
  rw [e]; exact wpAny_pure h
inductive QuietMid (w : World) (X μ : List Addr) (s : Shared) (n : Nat) (rest : List Value) (r : Option Bool) (s' : Shared) : Prop
  | mk (left : List AV) (e : r = none) (e' : s' = s) (r : VRs w s.heap X μ left rest) (p : AV.plains n left = true) (h : hashables left = true)
theorem wp_quiet : ∀ (n k : Nat) {A : Around} {E : Value → Shared → Prop} {v : Value} {d : AV} {Q : Bool → Shared → Prop}, VR w s.heap X μ d v → d.plain n = true → hashable d = true → n ≤ k → Q true s → wpAny (model P0 w) A (eqIsQuiet k v) Q E s := by
  intro n k
  induction k generalizing n with
  | zero =>
    intro A E v d Q r hp hh hk h
    cases d with
    | none => exact r.noneI (quiet_atom rfl h)
    | bool b => exact r.boolI (quiet_atom rfl h)
    | int i => exact r.intI fun t => quiet_atom rfl h
    | str x => exact r.strI fun t => quiet_atom rfl h
    | tup xs => exact plain_seq hp fun h0 _ => absurd h0 (Nat.not_lt.mpr hk)
    | _ => exact ff hh
  | succ k ih =>
    intro A E v d Q r hp hh hk h
    cases d with
    | none => exact r.noneI (quiet_atom rfl h)
    | bool b => exact r.boolI (quiet_atom rfl h)
    | int i => exact r.intI fun t => quiet_atom rfl h
    | str x => exact r.strI fun t => quiet_atom rfl h
    | tup xs =>
      refine plain_seq hp fun h0 hp => r.tupI fun a vs hT' ha hs => ?_
      have hT : s.TypeIs (.ref a) "tuple" := let ⟨o, ho, hc, _⟩ := hT'.is; ⟨o, ho, hc⟩
      obtain ⟨o, ho, hc, m, hd⟩ := hT'.is
      unfold eqIsQuiet
      refine wpAny_bind (wpAny_specialOf hT F.slot_tuple_eq.lookup ?_)
      show wpAny _ _ (isInstance (.ref a) (.type "tuple") >>= _) _ _ s
      refine wpAny_bind (wpAny_isInstance hT isSubtype_tuple_tuple ?_)
      simp only [Bool.not_true, Bool.false_eq_true, if_false]
      refine wpAny_bind (wpAny_seqItems ho hd ?_)
      refine wpAny_bind ?_
      show wpAny _ _ (forIn vs _ _) _ _ s
      rw [← Array.forIn_toList]
      refine wpAny_forIn_list _ (fun rest r s' => QuietMid w X μ s (n - 1) rest r.1 s') _ ?_ ?_ _ _ ⟨xs, rfl, rfl, hs, hp, hh⟩
      · rintro v rest r s' ⟨left, hr, rfl, hl, hp', hh'⟩
        cases left with
        | nil => exact (List.cons_ne_nil _ _ hl.vw).elim
        | cons d left' =>
          obtain ⟨_, _, e', hd1, hl'⟩ := hl.vw
          obtain ⟨rfl, rfl⟩ := List.cons.inj e'
          refine and_is hh' fun h1 h2 => and_is hp' fun p1 p2 => wpAny_bind (ih (n - 1) hd1 p1 h1 (by omega) ?_)
          simp only [Bool.not_true, Bool.false_eq_true, if_false]
          exact wpAny_pure ⟨left', rfl, rfl, hl', p2, h2⟩
      · rintro ⟨r1, r2⟩ s' ⟨_, hr, rfl, _, _, _⟩
        have hr : r1 = none := hr
        subst hr
        exact wpAny_pure h
    | _ => exact ff hh
end

noncomputable def tyIs (w : World) (h : Heap) (t : Ty) (a : Addr) : Prop := VR w h [] [] (enc t) (.ref a)

theorem tyIs_inj {w : World} {h : Heap} {a : Addr} {x y : Ty} (hx : tyIs w h x a) (hy : tyIs w h y a) : x = y := by
  obtain ⟨as, r1⟩ := VR.reads 4 hx (plain_enc x)
  obtain ⟨bs, r2⟩ := VR.reads 4 hy (plain_enc y)
  have o1 := toPy_ok 4 _ (plain_enc x)
  have e := SeqAt.Reads.unique _ _ _ _ _ o1.1 r1 r2
  have q := SeqAt.eqv_refl _ o1.1
  rw [show PyData.eqv (toPy (enc x)) (toPy (enc x)) = PyData.eqv (toPy (enc x)) (toPy (enc y)) by rw [← e], eqv_beq 4 4 _ _ (plain_enc x) (plain_enc y), beq_enc] at q
  exact of_decide_eq_true q

noncomputable def tyKind (w : World) : HeapKind P0 w Ty where
  is := tyIs w
  hash := fun t => hashAV w (enc t)
  draws := fun t => drawsAV (enc t)
  room := fun A => A.units + 20 < cLine
  inj := fun hx hy => tyIs_inj hx hy
  keeps := fun {h h' k a d o es ep} x ho hd hs => by
    have y : VR w h [d] [] (enc k) (.ref a) := VR.avoid1 (fun o' ho' vs n e => by rw [ho] at ho'; cases ho'; rw [hd] at e; cases e) (plain_enc k) x
    exact y.mono (fun b o' hb hn => ⟨List.not_mem_nil, by rw [hs.2 b (fun q => hn (q ▸ .head _))]; exact hb⟩) ⟨[], rfl⟩
  pyHash := fun {A E s k a Q} hu hk h => wp_hash 4 (enc k) hk (hashable_enc k) (plain_enc k) (by omega) h
  eqBool := fun {A E s x y a b Q} hu hx hy h => wp_eqBool (n := 4) hx hy (plain_enc x) (plain_enc y) (by omega) (by rw [beq_enc]; exact h)
  quiet := fun {A E s k a Q} hk h => wp_quiet 4 8 hk (plain_enc k) (hashable_enc k) (by decide) h


structure Gd (w : World) (base : Heap) (mg mb : Str → Option Value) : Prop where
  kin : (KK w).In base
  g : base.Ns mainGlobals mg
  b : base.Ns builtinsNs mb
  bi : ∀ x : Str, x ≠ Str.ofString "__name__" → mb x = bootBuiltins x
  lim : base.NoLimit
  hd : CodeHd base 85 83
  bat : base.BuiltinsAt mg 83
  no : base.get? 83 = none

structure Room (A : Around) (n : Nat) : Prop where
  handled : A.handled = none
  depth : A.depth + n < recursionLimit
  units : A.units + 8 * n + 80 < cLine

structure EnvOk (env : Env) : Prop where
  kind : env.scope.kind = .function
  globals : env.globals = mainGlobals
  builtins : env.builtins = builtinsNs
  cells : ∀ x, (env.kindOf x = some .cell ∨ env.kindOf x = some .free) → ∃ c, env.cells.lookup x = some c
  put : env.kindOf (Str.ofString "put_in") = some .cell → env.code = .ref 85 ∧ env.qual ++ Str.ofString "put_in" = qPut

inductive VRt (w : World) (h : Heap) (X μ : List Addr) : List (Ty × Addr × Value) → List (Ty × AV) → Prop
  | nil : VRt w h X μ [] []
  | cons {t : Ty} {a : Addr} {v : Value} {d : AV} {xs : List (Ty × Addr × Value)} {kvs : List (Ty × AV)} : VR w h X μ (enc t) (.ref a) → VR w h X μ d v → VRt w h X μ xs kvs → VRt w h X μ ((t, a, v) :: xs) ((t, d) :: kvs)

inductive OIs (w : World) (h : Heap) (X μ : List Addr) (a : Addr) : OD → Prop
  | lst {vs : Array Value} {xs : List AV} : PLst h a vs → VRs w h X μ xs vs.toList → OIs w h X μ a (.lst xs)
  | dct {xs : List (Ty × Addr × Value)} {kvs : List (Ty × AV)} : h.DictOfH (tyKind w) a xs → VRt w h X μ xs kvs → OIs w h X μ a (.dct kvs)
  | sdct {xs : List (Str × Value)} {kvs : List (Str × AV)} : h.DictOf (PySem.strKind P0 w) a xs → VRk w h X μ kvs xs → OIs w h X μ a (.sdct kvs)
  | src {σ : Src} {t u : Tok} : PLst h a #[.int σ.a t, .int σ.b u] → OIs w h X μ a (.src σ)
  | one {k : Int} {v : Value} : h.DictOf (intKind P0 w) a [(k, v)] → OIs w h X μ a (.one k)

inductive Owns (w : World) (h : Heap) (X μ : List Addr) : List Addr → Own → Prop
  | nil : Owns w h X μ [] []
  | cons {a : Addr} {o : OD} {as : List Addr} {os : Own} : OIs w h X μ a o → Owns w h X μ as os → Owns w h X μ (a :: as) (o :: os)

noncomputable def TabOk (h : Heap) (X : List Addr) : Prop :=
  ∃ ps, h.get? 83 = some (tabObj ps) ∧ TriplesOk ps.toList ∧ ∀ cv, codeAmong posPut ps.toList = some cv → ∃ cc, cv = .ref cc ∧ cc ∉ X ∧ h.CodeRec (.ref cc) qPut

structure SR (w : World) (base : Heap) (env : Env) (X μ : List Addr) (vs : Vars) (own : Own) (h : Heap) : Prop where
  stays : base.StaysIn h
  baseX : ∀ a ∈ X, base.get? a = none ∧ 83 ≤ a ∧ ∃ o, h.get? a = some o
  tabX : 83 ∈ X
  tab : TabOk h X
  own : Owns w h X μ μ own
  subμ : ∀ a ∈ μ, a ∈ X
  apart : ((83 : Addr) :: env.locals :: μ).Nodup
  locX : env.locals ∈ X
  ns : ∃ m, h.Ns env.locals m ∧ ∀ x d, vs.lookup x = some d → env.kindOf x = some .local → ∃ v, m x = some v ∧ VR w h X μ d v
  cells : ∀ x d, vs.lookup x = some d → env.kindOf x ≠ some .local → ∃ c v, env.cells.lookup x = some c ∧ h.IsCell c (some v) ∧ c ∉ μ ∧ c ≠ 83 ∧ c ≠ env.locals ∧ VR w h X μ d v

section
variable {w : World} {base h h' : Heap} {env : Env} {X X' μ μ' : List Addr} {vs : Vars} {own : Own}

theorem VRt.mono (hk : ∀ a o, h.get? a = some o → a ∉ X → a ∉ X' ∧ h'.get? a = some o) (hm : ∃ ν, μ' = μ ++ ν) {xs : List (Ty × Addr × Value)} {kvs : List (Ty × AV)} (r : VRt w h X μ xs kvs) : VRt w h' X' μ' xs kvs := by
  induction r with
  | nil => exact .nil
  | cons a b _ ih => exact .cons (a.mono hk hm) (b.mono hk hm) ih
theorem VRt.is {xs : List (Ty × Addr × Value)} {kvs : List (Ty × AV)} (r : VRt w h X μ xs kvs) : ∀ x ∈ xs, VR w h X μ (enc x.1) (.ref x.2.1) := by
  induction r with
  | nil => intro x hx; cases hx
  | cons a b _ ih =>
    intro x hx
    cases hx with
    | head => exact a
    | tail _ hx => exact ih x hx

theorem VR.plainμ (n : Nat) {v : Value} {d : AV} (hp : d.plain n = true) (r : VR w h X μ d v) (μ' : List Addr) : VR w h X μ' d v := r.plain_at n (fun _ _ e => e) hp
theorem tyIs_of {t : Ty} {a : Addr} (r : VR w h X μ (enc t) (.ref a)) : tyIs w h t a := (r.plainμ 4 (plain_enc t) []).weak (X' := []) fun _ q => by cases q

theorem PLst.up {a : Addr} {us : Array Value} (q : PLst h a us) (ha : ∀ o, h.get? a = some o → h'.get? a = some o) : PLst h' a us := q.imp fun _ e => ha _ e
theorem OIs.mono {a : Addr} {o : OD} (hk : ∀ a o, h.get? a = some o → a ∉ X → a ∉ X' ∧ h'.get? a = some o) (hm : ∃ ν, μ' = μ ++ ν) (ha : ∀ o, h.get? a = some o → h'.get? a = some o) (r : OIs w h X μ a o) : OIs w h' X' μ' a o :=
  r.casesOn (motive := fun o _ => OIs w h' X' μ' a o) (fun hl r => .lst (hl.up ha) (r.mono hk hm))
    (fun hd r => .dct (hd.imp fun o q => q.imp fun es q => q.imp fun ep q => ⟨ha o q.1, q.2.1, q.2.2.1, q.2.2.2.1, fun x hx => tyIs_of ((r.is x hx).mono hk hm), q.2.2.2.2.2⟩) (r.mono hk hm))
    (fun hd r => .sdct (DictOf.up hd ha) (r.mono hk hm)) (fun hl => .src (hl.up ha)) (fun hd => .one (DictOf.up hd ha))

noncomputable def Ow (w : World) (h : Heap) (X μ : List Addr) (a : Addr) : OD → Prop
  | .lst xs => ∃ vs : Array Value, PLst h a vs ∧ VRs w h X μ xs vs.toList
  | .dct kvs => ∃ xs, h.DictOfH (tyKind w) a xs ∧ VRt w h X μ xs kvs
  | .sdct kvs => ∃ xs, h.DictOf (PySem.strKind P0 w) a xs ∧ VRk w h X μ kvs xs
  | .src σ => ∃ t u, PLst h a #[.int σ.a t, .int σ.b u]
  | .one k => ∃ v, h.DictOf (intKind P0 w) a [(k, v)]
theorem OIs.ow {a : Addr} {o : OD} (r : OIs w h X μ a o) : Ow w h X μ a o := r.casesOn (motive := fun o _ => Ow w h X μ a o) (fun a b => ⟨_, a, b⟩) (fun a b => ⟨_, a, b⟩) (fun a b => ⟨_, a, b⟩) (fun a => ⟨_, _, a⟩) (fun a => ⟨_, a⟩)

theorem Owns.mono {as : List Addr} {os : Own} (hk : ∀ a o, h.get? a = some o → a ∉ X → a ∉ X' ∧ h'.get? a = some o) (hm : ∃ ν, μ' = μ ++ ν) (ha : ∀ a ∈ as, ∀ o, h.get? a = some o → h'.get? a = some o) (r : Owns w h X μ as os) :
    Owns w h' X' μ' as os := by
  induction r with
  | nil => exact .nil
  | cons a r ih => exact .cons (a.mono hk hm (ha _ (.head _))) (ih fun b hb => ha b (.tail _ hb))
theorem Owns.length {as : List Addr} {os : Own} (r : Owns w h X μ as os) : as.length = os.length := by
  induction r with
  | nil => rfl
  | cons _ _ ih => exact congrArg (· + 1) ih
theorem Owns.get {as : List Addr} {os : Own} (r : Owns w h X μ as os) {i : Nat} {o : OD} (e : os[i]? = some o) : ∃ a, as[i]? = some a ∧ OIs w h X μ a o := by
  induction r generalizing i with
  | nil => exact nn e
  | cons a r ih =>
    cases i with
    | zero => exact so e ⟨_, rfl, a⟩
    | succ i => exact ih e
theorem Owns.append {as bs : List Addr} {os ps : Own} (r : Owns w h X μ as os) (q : Owns w h X μ bs ps) : Owns w h X μ (as ++ bs) (os ++ ps) := by
  induction r with
  | nil => exact q
  | cons a r ih => exact .cons a ih
theorem Owns.take {as : List Addr} {os : Own} (r : Owns w h X μ as os) (n : Nat) : Owns w h X μ (as.take n) (os.take n) := by
  induction r generalizing n with
  | nil => cases n <;> exact .nil
  | cons a r ih =>
    cases n with
    | zero => exact .nil
    | succ n => exact .cons a (ih n)

theorem up_no {a : Addr} (hk : ∀ o, h.get? a = some o → h'.get? a = some o) (e : h'.get? a = none) : h.get? a = none := Option.eq_none_iff_forall_ne_some.mpr fun o q => nn (e.symm.trans (hk o q))
theorem TabOk.mono (hk : ∀ a o, h.get? a = some o → a ∉ X → a ∉ X' ∧ h'.get? a = some o) (h83 : ∀ o, h.get? 83 = some o → h'.get? 83 = some o) (t : TabOk h X) : TabOk h' X' :=
  t.imp fun ps t => ⟨h83 _ t.1, t.2.1, fun cv hcv => (t.2.2 cv hcv).imp fun cc q => ⟨q.1, (CodeRec.off q.2.2).elim fun _ e => (hk _ _ e q.2.1).1, CodeRec.up q.2.2 fun o e => (hk _ _ e q.2.1).2⟩⟩

theorem SR.grown (S : SR w base env X μ vs own h) (hk : ∀ a o, h.get? a = some o → h'.get? a = some o) : SR w base env X μ vs own h' :=
  have hk' : ∀ a o, h.get? a = some o → a ∉ X → a ∉ X ∧ h'.get? a = some o := fun a o e n => ⟨n, hk a o e⟩
  have hm : ∃ ν, μ = μ ++ ν := ⟨[], (List.append_nil _).symm⟩
  ⟨fun a o e => hk _ _ (S.stays a o e), fun a ha => ⟨(S.baseX a ha).1, (S.baseX a ha).2.1, (S.baseX a ha).2.2.imp fun o e => hk _ _ e⟩, S.tabX, S.tab.mono hk' (hk 83), S.own.mono hk' hm (fun a _ => hk a), S.subμ, S.apart, S.locX,
    S.ns.imp fun m q => ⟨q.1.keeps hk, fun x d e k => (q.2 x d e k).imp fun v r => ⟨r.1, r.2.mono hk' hm⟩⟩, fun x d e k => (S.cells x d e k).imp fun c q => q.imp fun v q => ⟨q.1, q.2.1.keeps hk, q.2.2.1, q.2.2.2.1, q.2.2.2.2.1, q.2.2.2.2.2.mono hk' hm⟩⟩
theorem SR.push (S : SR w base env X μ vs own h) (o : Obj) : SR w base env X μ vs own (h.push o) := S.grown fun _ _ e => Heap.get?_push_of_some _ e
theorem SR.new (S : SR w base env X μ vs own h) {a : Addr} (ha : h.get? a = none) : a ∉ X := fun hx => (S.baseX a hx).2.2.elim fun _ e => nn (ha.symm.trans e)
theorem get?_size (h : Heap) : h.get? h.objs.size = none := Option.eq_none_iff_forall_ne_some.mpr fun _ e => absurd (Heap.lt_size e) (Nat.lt_irrefl _)
theorem SR.big (S : SR w base env X μ vs own h) : 83 < h.objs.size := (S.baseX 83 S.tabX).2.2.elim fun _ e => Heap.lt_size e
end

theorem St.grown {W X μ : List Addr} {h h' : Heap} (hk : ∀ a o, h.get? a = some o → h'.get? a = some o) : St W X μ h X μ h' :=
  ⟨fun a o e _ => hk a o e, fun a e => up_no (hk a) e, fun _ e => Or.inl e, [], (List.append_nil _).symm, fun _ e => (List.not_mem_nil e).elim⟩

inductive AftX (w : World) (base : Heap) (env : Env) (X μ : List Addr) (vs : Vars) (s : Shared) (own' : Own) (R : Heap → List Addr → List Addr → Prop) (s' : Shared) : Prop
  | mk (X' μ' : List Addr) (h' : Heap) (tk : Tok) (e : s' = { s with heap := h', toks := tk }) (T : St (83 :: μ) X μ s.heap X' μ' h') (g : ∀ a ∈ X, a ∈ X') (S : SR w base env X' μ' vs own' h') (r : R h' X' μ')
noncomputable abbrev AftE (w : World) (base : Heap) (env : Env) (X μ : List Addr) (vs : Vars) (s : Shared) (own' : Own) (d : AV) (v : Value) (s' : Shared) : Prop := AftX w base env X μ vs s own' (fun h' X' μ' => VR w h' X' μ' d v) s'
noncomputable abbrev AftB (w : World) (base : Heap) (env : Env) (X μ : List Addr) (vs : Vars) (s : Shared) (own' : Own) (d : Bool) (v : Bool) (s' : Shared) : Prop := AftX w base env X μ vs s own' (fun _ _ _ => v = d) s'
noncomputable abbrev AftL (w : World) (base : Heap) (env : Env) (X μ : List Addr) (vs : Vars) (s : Shared) (own' : Own) (ds : List AV) (us : List Value) (s' : Shared) : Prop := AftX w base env X μ vs s own' (fun h' X' μ' => VRs w h' X' μ' ds us) s'

noncomputable abbrev noE : Value → Shared → Prop := fun _ _ => False

section
variable {w : World} {base : Heap} {env : Env} {X μ : List Addr} {vs : Vars} {s : Shared} {own : Own}
theorem SR.sub83 {h : Heap} (S : SR w base env X μ vs own h) : ∀ a ∈ (83 :: μ : List Addr), a ∈ X := fun a ha => (List.mem_cons.mp ha).elim (fun q => q ▸ S.tabX) (S.subμ a)
theorem SR.a1 {h : Heap} (S : SR w base env X μ vs own h) : (83 : Addr) ≠ env.locals := fun q => (List.nodup_cons.mp S.apart).1 (List.mem_cons.mpr (.inl q))
theorem SR.a2 {h : Heap} (S : SR w base env X μ vs own h) : (83 : Addr) ∉ μ := fun q => (List.nodup_cons.mp S.apart).1 (List.mem_cons.mpr (.inr q))
theorem SR.a3 {h : Heap} (S : SR w base env X μ vs own h) : env.locals ∉ μ := (List.nodup_cons.mp (List.nodup_cons.mp S.apart).2).1
theorem SR.a4 {h : Heap} (S : SR w base env X μ vs own h) : μ.Nodup := (List.nodup_cons.mp (List.nodup_cons.mp S.apart).2).2

theorem St.back {W X₁ μ₁ : List Addr} {h h₁ : Heap} (S : St W X μ h X₁ μ₁ h₁) {a : Addr} (ha : a ∈ μ₁) : a ∈ μ ∨ h.get? a = none := S.pre.elim fun _ e => (List.mem_append.mp (e.1 ▸ ha)).imp id (e.2 a)
theorem St.off {W X₁ μ₁ : List Addr} {h h₁ : Heap} (S : St W X μ h X₁ μ₁ h₁) {a : Addr} (ha : ∃ o, h.get? a = some o) (hn : a ∉ μ) : a ∉ μ₁ := fun q => (S.back q).elim hn fun e => ha.elim fun _ z => nn (e.symm.trans z)
theorem St.trans83 {X₁ μ₁ X₂ μ₂ : List Addr} {h h₁ h₂ : Heap} (S : St (83 :: μ) X μ h X₁ μ₁ h₁) (T : St (83 :: μ₁) X₁ μ₁ h₁ X₂ μ₂ h₂) : St (83 :: μ) X μ h X₂ μ₂ h₂ :=
  S.trans T fun _ ha => (List.mem_cons.mp ha).elim (fun q => .inl (List.mem_cons.mpr (.inl q))) fun q => (S.back q).imp (List.mem_cons_of_mem _) id

theorem AftE.same {h' : Heap} {tk : Tok} {d : AV} {v : Value} (S : SR w base env X μ vs own s.heap) (hk : ∀ a o, s.heap.get? a = some o → h'.get? a = some o) (r : VR w h' X μ d v) :
    AftE w base env X μ vs s own d v { s with heap := h', toks := tk } := ⟨X, μ, h', tk, rfl, .grown hk, fun _ e => e, S.grown hk, r⟩
theorem AftE.here {d : AV} {v : Value} (S : SR w base env X μ vs own s.heap) (r : VR w s.heap X μ d v) : AftE w base env X μ vs s own d v s := AftE.same (tk := s.toks) S (fun _ _ e => e) r
theorem AftE.tok {d : AV} {v : Value} (t : Tok) (S : SR w base env X μ vs own s.heap) (r : VR w s.heap X μ d v) : AftE w base env X μ vs s own d v { s with toks := t } := AftE.same (h' := s.heap) S (fun _ _ e => e) r
theorem AftB.here {d : Bool} (S : SR w base env X μ vs own s.heap) : AftB w base env X μ vs s own d d s := ⟨X, μ, s.heap, s.toks, rfl, .refl, fun _ e => e, S, rfl⟩
end

noncomputable def beqV (v : Value) : AV → Bool
  | .val u => v == u
  | .int i => (match v with
    | .int j _ => i == j
    | _ => false)
  | _ => false
noncomputable def chkG (w : World) (x : Str) (d : AV) : Bool := (nsIn (KK w) mainGlobals x).any fun o => match o with
  | some v => beqV v d
  | none => (vl? d).any fun u => bootBuiltins x == some u && x != "__name__"
theorem gtab_ok (w : World) : (gtab.all fun e => chkG w e.1 e.2) = true := by kernel_rfl

theorem lookup_mem {α : Type} {l : List (Str × α)} {x : Str} {d : α} (h : l.lookup x = some d) : (x, d) ∈ l := PySem.mem_of_lookup h

structure SE (w : World) (base : Heap) (n : Nat) (f : Scope → Vars → Own → Expr → Option (AV × Own)) : Prop where
  ok : ∀ {env : Env} {X μ : List Addr} {vs : Vars} {own : Own} {e : Expr} {d : AV} {own' : Own} {A : Around} {s : Shared}, f env.scope vs own e = some (d, own') → EnvOk env → Room A n → SR w base env X μ vs own s.heap →
    wpAny (model P0 w) A (eval e env) (AftE w base env X μ vs s own' d) noE s
structure ST (w : World) (base : Heap) (n : Nat) (f : Scope → Vars → Own → Expr → Option (Bool × Own)) : Prop where
  ok : ∀ {env : Env} {X μ : List Addr} {vs : Vars} {own : Own} {e : Expr} {d : Bool} {own' : Own} {A : Around} {s : Shared}, f env.scope vs own e = some (d, own') → EnvOk env → Room A n → SR w base env X μ vs own s.heap →
    wpAny (model P0 w) A (isTrue e env (eval e env)) (AftB w base env X μ vs s own' d) noE s

section
variable {w : World} {base : Heap} {mg mb : Str → Option Value} {env : Env} {X μ : List Addr} {vs : Vars} {own own' : Own} {A : Around} {s : Shared} {n : Nat}

theorem AftX.from {R : Heap → List Addr → List Addr → Prop} {X₁ μ₁ : List Addr} {h₁ : Heap} {tk₁ : Tok} {s' : Shared} (T : St (83 :: μ) X μ s.heap X₁ μ₁ h₁) (g : ∀ a ∈ X, a ∈ X₁) (a : AftX w base env X₁ μ₁ vs { s with heap := h₁, toks := tk₁ } own' R s') :
    AftX w base env X μ vs s own' R s' := a.casesOn fun X' μ' h' tk e T' g' S' r => ⟨X', μ', h', tk, e, T.trans83 T', fun a ha => g' a (g a ha), S', r⟩
theorem AftE.from {X₁ μ₁ : List Addr} {h₁ : Heap} {tk₁ : Tok} {d : AV} {v : Value} {s' : Shared} (T : St (83 :: μ) X μ s.heap X₁ μ₁ h₁) (g : ∀ a ∈ X, a ∈ X₁) (a : AftE w base env X₁ μ₁ vs { s with heap := h₁, toks := tk₁ } own' d v s') :
    AftE w base env X μ vs s own' d v s' := AftX.from T g a
theorem AftB.from {X₁ μ₁ : List Addr} {h₁ : Heap} {tk₁ : Tok} {d v : Bool} {s' : Shared} (T : St (83 :: μ) X μ s.heap X₁ μ₁ h₁) (g : ∀ a ∈ X, a ∈ X₁) (a : AftB w base env X₁ μ₁ vs { s with heap := h₁, toks := tk₁ } own' d v s') :
    AftB w base env X μ vs s own' d v s' := AftX.from T g a
theorem AftL.from {X₁ μ₁ : List Addr} {h₁ : Heap} {tk₁ : Tok} {d : List AV} {v : List Value} {s' : Shared} (T : St (83 :: μ) X μ s.heap X₁ μ₁ h₁) (g : ∀ a ∈ X, a ∈ X₁) (a : AftL w base env X₁ μ₁ vs { s with heap := h₁, toks := tk₁ } own' d v s') :
    AftL w base env X μ vs s own' d v s' := AftX.from T g a

theorem then_E {t : Sem Value} {own₁ : Own} {d₁ : AV} {Q : Value → Shared → Prop} (h : wpAny (model P0 w) A t (AftE w base env X μ vs s own₁ d₁) noE s)
    (hk : ∀ v X₁ μ₁ h₁ tk₁, St (83 :: μ) X μ s.heap X₁ μ₁ h₁ → (∀ a ∈ X, a ∈ X₁) → SR w base env X₁ μ₁ vs own₁ h₁ → VR w h₁ X₁ μ₁ d₁ v → Q v { s with heap := h₁, toks := tk₁ }) : wpAny (model P0 w) A t Q noE s :=
  wpAny_mono h (fun v s₁ q => q.casesOn fun X' μ' h' tk e T g S' r => e ▸ hk v X' μ' h' tk T g S' r) fun _ _ e => e
theorem wm {α : Type} {t : Sem α} {Q Q' : α → Shared → Prop} (h : wpAny (model P0 w) A t Q' noE s) (k : ∀ v s', Q' v s' → Q v s') : wpAny (model P0 w) A t Q noE s := wpAny_mono h k fun _ _ e => e
theorem wme {α : Type} {E : Value → Shared → Prop} {t : Sem α} {Q Q' : α → Shared → Prop} (h : wpAny (model P0 w) A t Q' noE s) (k : ∀ v s', Q' v s' → Q v s') : wpAny (model P0 w) A t Q E s := wpAny_mono h k fun _ _ e => e.elim

theorem ev_cell {x : Str} {p : Pos} {d : AV} {kd : NameKind} (hk : env.scope.names.lookup x = some kd) (hnl : kd ≠ .local) (h : vs.lookup x = some d) (S : SR w base env X μ vs own s.heap) {Q : Value → Prop} (k : ∀ c v, env.cells.lookup x = some c → s.heap.IsCell c (some v) → VR w s.heap X μ d v → wpAny (model P0 w) A (eval (.Name x p) env) (AftE w base env X μ vs s own d) noE s) :
    wpAny (model P0 w) A (eval (.Name x p) env) (AftE w base env X μ vs s own d) noE s :=
  (S.cells x d h (fun q => hnl (Option.some.inj (hk.symm.trans q)))).elim fun c q => q.elim fun v q => k c v q.1 q.2.1 q.2.2.2.2.2
theorem ev_name (G : Gd w base mg mb) {x : Str} {p : Pos} {d : AV} (h : evName env.scope vs x = some d) (ok : EnvOk env) (S : SR w base env X μ vs own s.heap) :
    wpAny (model P0 w) A (eval (.Name x p) env) (AftE w base env X μ vs s own d) noE s := by
  refine ite_else h fun hd h => ?_
  rw [Bool.not_eq_true, Bool.or_eq_false_iff] at hd
  cases hk : env.scope.names.lookup x with
  | none => rw [hk] at h; exact nn h
  | some kd =>
    rw [hk] at h
    cases kd with
    | «local» => exact S.ns.elim fun m q => (q.2 x d h hk).elim fun v r => wpAny_Name (wpAny_loadName_local ok.kind hk q.1 r.1 (AftE.here S r.2)) hd.1
    | cell => exact ev_cell (Q := fun _ => True) hk (by decide) h S fun c v e1 e2 r => wpAny_Name (wpAny_loadName_cell ok.kind hk e1 e2 (AftE.here S r)) hd.1
    | free => exact ev_cell (Q := fun _ => True) hk (by decide) h S fun c v e1 e2 r => wpAny_Name (wpAny_loadName_free ok.kind hk e1 e2 (AftE.here S r) hd.2) hd.1
    | globalImplicit =>
      have q := List.all_eq_true.mp (gtab_ok w) _ (lookup_mem h)
      obtain ⟨o, ho, q⟩ := opt_any q
      cases o with
      | some v =>
        refine Calls.Name_function_global ok.kind hk (Calls.loadGlobal_global (by rw [ok.globals]; exact G.g.keeps S.stays) (mg_of G.kin G.g ho) (AftE.here S ?_)) hd.1
        cases d with
        | val u => exact (eq_of_beq (show (v == u) = true from q)) ▸ .val v
        | int i => cases v <;> first | exact ff q | exact (eq_of_beq (show (i == _) = true from q)) ▸ .int i _
        | _ => exact ff q
      | none =>
        obtain ⟨u, hu, q⟩ := opt_any q
        refine and_is q fun q1 q2 => Calls.Name_function_global ok.kind hk (Calls.loadGlobal_builtin (by rw [ok.globals]; exact G.g.keeps S.stays) (mg_none_of G.kin G.g ho) (by rw [ok.builtins]; exact G.b.keeps S.stays) ((G.bi x (bne_iff_ne.mp q2)).trans (eq_of_beq q1)) (AftE.here S ?_)) hd.1
        rw [show d = _ from vl?_is hu]; exact .val u
    | _ => exact nn h

theorem vr_up {h : Heap} {us : List Value} {ds : List AV} (o : Obj) (r : VRs w h X μ ds us) : VRs w (h.push o) X μ ds us := r.mono (fun a o e n => ⟨n, Heap.get?_push_of_some _ e⟩) ⟨[], (List.append_nil _).symm⟩
theorem vr_tup {h : Heap} {us : List Value} {ds : List AV} (S : SR w base env X μ vs own h) (r : VRs w h X μ ds us) : VR w (h.push { cls := .type "tuple", data := .seq us.toArray }) X μ (.tup ds) (.ref h.objs.size) :=
  .tup ⟨0, Heap.get?_push_size _ rfl⟩ (S.new (get?_size _)) (vr_up _ r)
theorem vr_lst {h : Heap} {us : List Value} {ds : List AV} (S : SR w base env X μ vs own h) (r : VRs w h X μ ds us) : VR w (h.push { cls := .type "list", data := .seq us.toArray }) X μ (.lst ds) (.ref h.objs.size) :=
  .lst ⟨0, Heap.get?_push_size _ rfl⟩ (S.new (get?_size _)) (vr_up _ r)

theorem not_star {e : Expr} (h : isStar e = false) (es : List Expr) (env : Env) : starEach (e :: es) env = (false, eval e env) :: starEach es env := by
  cases e <;> first | rfl | exact Bool.noConfusion h
theorem ev_es {R : Rec} (hE : SE w base n R.e) (ok : EnvOk env) (hA : Room A n) (pos : Pos) {es : List Expr} {X μ : List Addr} {own : Own} {s : Shared} {ds : List AV} {own' : Own} (h : R.es env.scope vs own es = some (ds, own')) (S : SR w base env X μ vs own s.heap) :
    wpAny (model P0 w) A (spliced (backTo pos (starEach es env))) (AftL w base env X μ vs s own' ds) noE s := by
  induction es generalizing X μ own s ds own' with
  | nil => exact sp h (wpAny_pure ⟨X, μ, s.heap, s.toks, rfl, .refl, fun _ e => e, S, .nil⟩)
  | cons e es ih =>
    refine ite_else h fun hs h => bind_two h fun d own₁ h1 h => mp h fun q h3 => ?_
    rw [not_star (Bool.not_eq_true _ ▸ hs)]
    show wpAny _ A (eval e env >>= _) _ _ s
    refine wpAny_bind (then_E (hE.ok h1 ok hA S) fun v X₁ μ₁ h₁ tk₁ T g S₁ r => wpAny_bind (wpAny_pure (wpAny_bind (wpAny_holding (wm (ih h3 S₁) fun us s₂ q => wpAny_pure (q.casesOn fun X₂ μ₂ h₂ tk₂ e T₂ g₂ S₂ r₂ => ?_))))))
    exact ⟨X₂, μ₂, h₂, tk₂, e, T.trans83 T₂, fun a ha => g₂ a (g a ha), S₂, .cons (T₂.vr S₁.sub83 r) r₂⟩

theorem VRs.length {h : Heap} {us : List Value} {ds : List AV} (r : VRs w h X μ ds us) : us.length = ds.length := by
  induction ds generalizing us with
  | nil => exact r.nilI rfl
  | cons d ds ih => exact r.consI fun _ _ _ r => congrArg (· + 1) (ih r)
theorem VRs.size {h : Heap} {us : Array Value} {ds : List AV} (r : VRs w h X μ ds us.toList) : us.size = ds.length := r.length
theorem Rec.es_length {R : Rec} {sc : Scope} {es : List Expr} {own own' : Own} {ds : List AV} (h : R.es sc vs own es = some (ds, own')) : ds.length = es.length := by
  induction es generalizing own own' ds with
  | nil => exact sp h rfl
  | cons e es ih => exact ite_else h fun _ h => bind_any h fun p _ h => mp h fun q h3 => congrArg (· + 1) (ih h3)

theorem sizeLine_is : sizeLine = 16777216 := by rw [sizeLine_eq]
theorem small_size {a b : Nat} (h : a = b) (k : b ≤ 1000) : a ≤ sizeLine := by rw [h, sizeLine_is]; omega

theorem ev_tuple {R : Rec} (hE : SE w base n R.e) (ok : EnvOk env) (hA : Room A n) {es : List Expr} {k : Nat} {pos : Pos} {ds : List AV} (hl : es.length ≤ 1000) (h : R.es env.scope vs own es = some (ds, own')) (S : SR w base env X μ vs own s.heap) :
    wpAny (model P0 w) A (eval (.Tuple es k pos) env) (AftE w base env X μ vs s own' (.tup ds)) noE s :=
  wpAny_Tuple (wm (ev_es hE ok hA pos h S) fun us s₂ q => q.casesOn fun X₂ μ₂ h₂ tk₂ e T₂ g₂ S₂ r₂ => e ▸ ⟨small_size (r₂.length.trans (Rec.es_length h)) hl, AftE.from (tk₁ := tk₂) T₂ g₂ (AftE.same (s := { s with heap := h₂, toks := tk₂ }) S₂ (fun _ _ e => Heap.get?_push_of_some _ e) (vr_tup S₂ r₂))⟩)
theorem ev_list {R : Rec} (hE : SE w base n R.e) (ok : EnvOk env) (hA : Room A n) {es : List Expr} {pos : Pos} {ds : List AV} (hl : es.length ≤ 1000) (h : R.es env.scope vs own es = some (ds, own')) (S : SR w base env X μ vs own s.heap) :
    wpAny (model P0 w) A (eval (.List es pos) env) (AftE w base env X μ vs s own' (.lst ds)) noE s :=
  wpAny_List (wm (ev_es hE ok hA pos h S) fun us s₂ q => q.casesOn fun X₂ μ₂ h₂ tk₂ e T₂ g₂ S₂ r₂ => e ▸ ⟨small_size (r₂.length.trans (Rec.es_length h)) hl, AftE.from (tk₁ := tk₂) T₂ g₂ (AftE.same (s := { s with heap := h₂, toks := tk₂ }) S₂ (fun _ _ e => Heap.get?_push_of_some _ e) (vr_lst S₂ r₂))⟩)
end

section
variable {w : World} {base : Heap} {mg mb : Str → Option Value} {env : Env} {X μ : List Addr} {vs : Vars} {own own' : Own} {A : Around} {s : Shared} {n : Nat}

theorem Room.mono {m : Nat} (h : Room A n) (hm : m ≤ n) : Room A m := ⟨h.handled, Nat.lt_of_le_of_lt (Nat.add_le_add_left hm _) h.depth, Nat.lt_of_le_of_lt (Nat.add_le_add_right (Nat.add_le_add_left (Nat.mul_le_mul_left 8 hm) _) _) h.units⟩

theorem ev_const {c : Const} {k : Nat} {pos : Pos} {d : AV} (h : (cAV c).map (fun d => (d, own)) = some (d, own')) (S : SR w base env X μ vs own s.heap) :
    wpAny (model P0 w) A (eval (.Constant c k pos) env) (AftE w base env X μ vs s own' d) noE s := by
  refine mp h fun d h => ?_
  cases c with
  | none => exact so h (wpAny_pure (AftE.here S .none))
  | bool b => exact so h (wpAny_pure (AftE.here S (.bool _)))
  | int i => exact so h (wpAny_Constant_int (AftE.tok _ S (.int _ _)))
  | str x => exact so h (Calls.Constant_str (AftE.tok _ S (.str _ _)))
  | _ => exact nn h

@[elab_as_elim] theorem own_at {h : Heap} {v : Value} {i : Nat} {o : OD} {M : Value → Prop} (S : SR w base env X μ vs own h) (r : VR w h X μ (.loc i) v) (e : own[i]? = some o) (k : ∀ a, a ∈ X → μ[i]? = some a → Ow w h X μ a o → M (.ref a)) : M v := by
  obtain ⟨a, e1, q⟩ := S.own.get e
  exact r.locI fun b e2 => so (e1.symm.trans e2) (k a (S.subμ a (List.mem_of_getElem? e1)) e1 q.ow)
@[elab_as_elim] theorem own_lst {h : Heap} {v : Value} {i : Nat} {xs : List AV} {M : Value → Prop} (S : SR w base env X μ vs own h) (r : VR w h X μ (.loc i) v) (e : own[i]? = some (.lst xs)) (k : ∀ a us, a ∈ X → μ[i]? = some a → PLst h a us → VRs w h X μ xs us.toList → M (.ref a)) : M v :=
  own_at S r e fun a hX hi q => Exists.elim q fun us q => k a us hX hi q.1 q.2
@[elab_as_elim] theorem own_dct {h : Heap} {v : Value} {i : Nat} {kvs : List (Ty × AV)} {M : Value → Prop} (S : SR w base env X μ vs own h) (r : VR w h X μ (.loc i) v) (e : own[i]? = some (.dct kvs)) (k : ∀ a xs, a ∈ X → μ[i]? = some a → h.DictOfH (tyKind w) a xs → VRt w h X μ xs kvs → M (.ref a)) : M v :=
  own_at S r e fun a hX hi q => Exists.elim q fun us q => k a us hX hi q.1 q.2
@[elab_as_elim] theorem own_sdct {h : Heap} {v : Value} {i : Nat} {kvs : List (Str × AV)} {M : Value → Prop} (S : SR w base env X μ vs own h) (r : VR w h X μ (.loc i) v) (e : own[i]? = some (.sdct kvs)) (k : ∀ a xs, a ∈ X → μ[i]? = some a → h.DictOf (PySem.strKind P0 w) a xs → VRk w h X μ kvs xs → M (.ref a)) : M v :=
  own_at S r e fun a hX hi q => Exists.elim q fun us q => k a us hX hi q.1 q.2

@[elab_as_elim] theorem lst?_at {h : Heap} {v : Value} {d : AV} {xs : List AV} {M : Value → Prop} (S : SR w base env X μ vs own h) (r : VR w h X μ d v) (e : lst? own d = some xs) (k : ∀ a us, PLst h a us → VRs w h X μ xs us.toList → M (.ref a)) : M v := by
  cases d with
  | lst ys => exact r.lstI fun a us hl _ hs => k a us hl (Option.some.inj e ▸ hs)
  | loc i => exact bind_any e fun o q e => own_lst S r (ol?_is e ▸ q) fun a us _ _ => k a us
  | _ => exact nn e

theorem reads_deref {h : Heap} {v : Value} {d : AV} {n : Nat} (S : SR w base env X μ vs own h) (r : VR w h X μ d v) (hp : AV.plain n (deref own d).norm = true) : ∃ as, Reads h v (toPy (deref own d).norm) as := by
  unfold deref at hp ⊢
  cases q : (lo? d).bind fun i => (own[i]?).bind ol? with
  | none =>
    rw [q] at hp
    exact VR.reads n r.norm hp
  | some xs =>
    rw [q] at hp
    refine bind_any q fun i h1 h2 => bind_any h2 fun o h3 h4 => ?_
    rw [lo?_is h1] at r
    rw [ol?_is h4] at h3
    exact own_lst S r h3 fun a us _ _ hl hs => hl.elim fun _ e => plain_seq hp fun _ hp => (VRs.reads _ hs.norm hp).imp' _ fun _ q => .list e rfl rfl q

theorem cmp_reads {a b : Value} {d e : AV} {P : Prop} (S : SR w base env X μ vs own s.heap) (hA : Room A n) (ra : VR w s.heap X μ d a) (rb : VR w s.heap X μ e b) (hp : (AV.plain dep (deref own d).norm && AV.plain dep (deref own e).norm) = true)
    (k : ∀ as bs, Reads s.heap a (toPy (deref own d).norm) as → Reads s.heap b (toPy (deref own e).norm) bs → (toPy (deref own d).norm).canLay0 = true → (toPy (deref own e).norm).canLay0 = true → A.units + min (toPy (deref own d).norm).depth (toPy (deref own e).norm).depth < cLine →
      PyData.eqv (toPy (deref own d).norm) (toPy (deref own e).norm) = AV.beq (deref own d).norm (deref own e).norm → P) : P :=
  and_is hp fun h1 h2 => (reads_deref S ra h1).elim fun as r1 => (reads_deref S rb h2).elim fun bs r2 => k as bs r1 r2 (toPy_ok _ _ h1).1 (toPy_ok _ _ h2).1
    (Nat.lt_of_le_of_lt (Nat.add_le_add_left (Nat.le_trans (Nat.min_le_left _ _) (toPy_ok _ _ h1).2) _) (by have := hA.units; simp only [dep]; omega)) (eqv_beq _ _ _ _ h1 h2)
theorem cmp_eq {a b : Value} {d e : AV} {c : Bool} (S : SR w base env X μ vs own s.heap) (hA : Room A n) (ra : VR w s.heap X μ d a) (rb : VR w s.heap X μ e b) (h : evCmp own .Eq d e = some c) {Q : Value → Shared → Prop} (hQ : Q (.bool c) s) :
    wpAny (model P0 w) A (compareOp .Eq a b) Q noE s :=
  ite_then h fun hp h => cmp_reads S hA ra rb hp fun as bs r1 r2 o1 o2 hu e => SeqAt.compareEq_reads r1 r2 o1 o2 hu (e.trans (Option.some.inj h) ▸ hQ)
theorem cmp_ne {a b : Value} {d e : AV} {c : Bool} (S : SR w base env X μ vs own s.heap) (hA : Room A n) (ra : VR w s.heap X μ d a) (rb : VR w s.heap X μ e b) (h : evCmp own .NotEq d e = some c) {Q : Value → Shared → Prop} (hQ : Q (.bool c) s) :
    wpAny (model P0 w) A (compareOp .NotEq a b) Q noE s :=
  ite_then h fun hp h => cmp_reads S hA ra rb hp fun as bs r1 r2 o1 o2 hu e => SeqAt.compareNe_reads r1 r2 o1 o2 hu ((congrArg (!·) e).trans (Option.some.inj h) ▸ hQ)

theorem VRt.at {h : Heap} {xs : List (Ty × Addr × Value)} {kvs : List (Ty × AV)} (r : VRt w h X μ xs kvs) (t : Ty) :
    (∀ d, kvs.lookup t = some d → ∃ p, atKey xs t = some p ∧ VR w h X μ d p.2) ∧ (atKey xs t).isSome = hasKey kvs t := by
  induction r with
  | nil => exact ⟨fun d e => nn e, rfl⟩
  | @cons t' a v d' xs kvs ra rv r ih =>
    by_cases e : t' = t
    · subst e
      have hk : atKey ((t', a, v) :: xs) t' = some (a, v) := by simp [atKey]
      refine ⟨fun d q => ⟨(a, v), hk, ?_⟩, ?_⟩
      · rw [List.lookup_cons, beq_self_eq_true] at q
        exact Option.some.inj q ▸ rv
      · rw [hk]; unfold hasKey; rw [List.any_cons, beq_self_eq_true]; rfl
    · have hk : atKey ((t', a, v) :: xs) t = atKey xs t := by simp [atKey, List.find?_cons, e]
      rw [hk, List.lookup_cons, show (t == t') = false from beq_eq_false_iff_ne.mpr fun q => e q.symm]
      refine ⟨ih.1, ?_⟩
      rw [ih.2]; unfold hasKey; rw [List.any_cons, show (t' == t) = false from beq_eq_false_iff_ne.mpr e]; rfl

theorem enc_tup (t : Ty) : ∃ xs, enc t = .tup xs := by
  cases t <;> first | exact ⟨_, rfl⟩ | (rename_i b; cases b <;> exact ⟨_, rfl⟩)
@[elab_as_elim] theorem vr_key {h : Heap} {v : Value} {t : Ty} {M : Value → Prop} (r : VR w h X μ (enc t) v) (k : ∀ a, tyIs w h t a → M (.ref a)) : M v :=
  (enc_tup t).elim fun xs e => (e ▸ r : VR w h X μ (.tup xs) v).tupI (M := fun v => VR w h X μ (enc t) v → M v) (fun a _ _ _ _ r => k a (tyIs_of r)) r

theorem wpAny_unmap {M : Model} {α β : Type} {m : Sem α} {f : α → β} {Q : β → Shared → Prop} {E : Value → Shared → Prop} (h : wpAny M A (m >>= fun a => pure (f a)) Q E s) : wpAny M A m (fun a s' => Q (f a) s') E s := fun Γ p hΓ => by
  have := h Γ p hΓ
  rw [Sem.wp_bind'] at this
  exact this

theorem SR.notSys {h : Heap} (S : SR w base env X μ vs own h) {a : Addr} (ha : a ∈ X) : (a == sysModules) = false :=
  beq_eq_false_iff_ne.mpr fun e => absurd (e ▸ (S.baseX a ha).2.1 : 83 ≤ sysModules) (by decide)

theorem room_ty (hA : Room A n) : (tyKind w).room A := Nat.lt_of_le_of_lt (Nat.add_le_add (Nat.le_add_right _ _) (by decide : 20 ≤ 80)) hA.units
theorem room_ty1 (hA : Room A n) : (tyKind w).room A.in1 := Nat.lt_of_le_of_lt (Nat.le_trans (Nat.le_of_eq (Nat.add_assoc A.units 1 20)) (Nat.add_le_add (Nat.le_add_right _ _) (by decide : 21 ≤ 80))) hA.units

theorem in_own {a d : Addr} {t : Ty} {xs : List (Ty × Addr × Value)} {Q : Value → Shared → Prop} (hA : Room A n) (hkey : tyIs w s.heap t a) (hd : (d == sysModules) = false) (hm : s.heap.DictOfH (tyKind w) d xs)
    (h : Q (.bool (atKey xs t).isSome) { s with toks := s.toks + drawsAV (enc t) }) : wpAny (model P0 w) A (compareOp .In (.ref a) (.ref d)) Q noE s := wpAny_in_heap (knd := tyKind w) (room_ty1 hA) hkey hd hm h
theorem notIn_own {a d : Addr} {t : Ty} {xs : List (Ty × Addr × Value)} {Q : Value → Shared → Prop} (hA : Room A n) (hkey : tyIs w s.heap t a) (hd : (d == sysModules) = false) (hm : s.heap.DictOfH (tyKind w) d xs)
    (h : Q (.bool (!(atKey xs t).isSome)) { s with toks := s.toks + drawsAV (enc t) }) : wpAny (model P0 w) A (compareOp .NotIn (.ref a) (.ref d)) Q noE s := by
  have q := in_own (Q := fun v s' => ∃ b, v = .bool b ∧ Q (.bool (!b)) s') hA hkey hd hm ⟨_, rfl, h⟩
  have q' : wpAny (model P0 w) A (contains (.ref d) (.ref a) >>= fun b => pure (Value.bool b)) (fun v s' => ∃ b, v = .bool b ∧ Q (.bool (!b)) s') noE s := q
  show wpAny (model P0 w) A (contains (.ref d) (.ref a) >>= fun b => pure (Value.bool (!b))) Q noE s
  exact wpAny_bind (wm (wpAny_unmap q') fun b s' e => e.elim fun b' e => wpAny_pure (Value.bool.inj e.1 ▸ e.2))

theorem valueAt_lookup {h : Heap} {kvs : List (Str × Value)} {ks : List (Str × AV)} (r : VRk w h X μ ks kvs) (x : Str) :
    (∀ d, ks.lookup x = some d → ∃ v, valueAt kvs x = some v ∧ VR w h X μ d v) ∧ (valueAt kvs x).isSome = (ks.lookup x).isSome := by
  induction ks generalizing kvs with
  | nil => exact r.nilI ⟨fun d e => nn e, rfl⟩
  | cons k ks ih =>
    obtain ⟨y, d'⟩ := k
    refine r.consI fun v es rv r' => ?_
    rw [List.lookup_cons]
    by_cases e : y = x
    · subst e
      rw [show valueAt ((y, v) :: es) y = some v by simp [valueAt], beq_self_eq_true]
      exact ⟨fun d q => ⟨v, rfl, Option.some.inj q ▸ rv⟩, rfl⟩
    · rw [show valueAt ((y, v) :: es) x = valueAt es x by simp [valueAt, List.find?_cons, e], show (x == y) = false from beq_eq_false_iff_ne.mpr fun q => e q.symm]
      exact ih r'
end

section
variable {w : World} {base : Heap} {mg mb : Str → Option Value} {env : Env} {X μ : List Addr} {vs : Vars} {own own' : Own} {A : Around} {s : Shared} {n : Nat}

theorem toPys_any (xs : List AV) (x : Str) (hx : PyData.strOk x = true) (m : Nat) (hp : AV.plains m xs = true) : ((toPys xs).any fun y => PyData.eqv y (.str x)) = xs.any fun y => AV.beq y (.str x) := by
  induction xs with
  | nil => rfl
  | cons y ys ih =>
    refine and_is hp fun h1 h2 => ?_
    show (PyData.eqv (toPy y) (.str x) || (toPys ys).any fun y => PyData.eqv y (.str x)) = _
    rw [ih h2, List.any_cons, show PyData.eqv (toPy y) (.str x) = AV.beq y (.str x) from eqv_beq m 0 y (.str x) h1 hx]

theorem cmp_ints {op : CmpOp} {a b : Value} {d e : AV} {p : Int × Int} {Q : Value → Shared → Prop} (ra : VR w s.heap X μ d a) (rb : VR w s.heap X μ e b) (h : in2? d e = some p) (k : ∀ t u, wpAny (model P0 w) A (compareOp op (.int p.1 t) (.int p.2 u)) Q noE s) :
    wpAny (model P0 w) A (compareOp op a b) Q noE s :=
  ((in2?_is h).1 ▸ ra : VR w s.heap X μ (.int p.1) a).intI fun t => ((in2?_is h).2 ▸ rb : VR w s.heap X μ (.int p.2) b).intI fun u => k t u

theorem in_room (hA : Room A n) (k : Nat) : A.units + 1 + min k 0 < cLine := Nat.lt_of_le_of_lt (Nat.add_le_add (Nat.add_le_add (Nat.le_add_right _ (8 * n)) (by decide : 1 ≤ 80)) (Nat.min_le_right k 0)) hA.units

theorem cmp_in {a b : Value} {d e : AV} {c : Bool} (S : SR w base env X μ vs own s.heap) (hA : Room A n) (ra : VR w s.heap X μ d a) (rb : VR w s.heap X μ e b) (h : cmpIn own d e = some c) {Q : Value → Shared → Prop}
    (hQ : ∀ tk, Q (.bool c) { s with toks := tk }) : wpAny (model P0 w) A (compareOp .In a b) Q noE s := by
  cases e with
  | dct ks =>
    refine map_any h fun x h1 e => ?_
    rw [st?_is h1] at ra
    refine ra.strI fun t => rb.dctI fun a kvs hd hX hs hk => wpAny_in_of (knd := PySem.strKind P0 w) (k := x) (by simp [PySem.strKind, Value.isStrOf]) hs hd.mapOf ?_
    rw [(valueAt_lookup hk x).2, e]; exact hQ _
  | loc i =>
    refine bind_any h fun o q h => bind_any h fun kvs h1 h => map_any h fun t e1 e2 => ?_
    rw [od?_is h1] at q
    refine vr_key (vr_dec e1 ra) fun ka hkey => own_dct S rb q fun da xs hX _ hd hk => in_own hA hkey (S.notSys hX) hd ?_
    rw [(hk.at t).2, e2]
    exact hQ _
  | lst xs =>
    refine bind_any h fun x h1 h => ite_then h fun hp h => and_is hp fun p1 p2 => ?_
    rw [st?_is h1] at ra
    obtain ⟨bs, r2⟩ := VR.reads (dep + 1) rb p1
    refine ra.strI fun t => SeqAt.in_list_reads (xs := toPys xs) r2 (.str _ _) (toPys_ok _ _ p1).1 p2 ?_ ?_
    · exact in_room hA _
    · rw [toPys_any _ _ p2 _ p1, Option.some.inj h]; exact hQ s.toks
  | tup xs =>
    refine bind_any h fun x h1 h => ite_then h fun hp h => and_is hp fun p1 p2 => ?_
    rw [st?_is h1] at ra
    obtain ⟨bs, r2⟩ := VR.reads (dep + 1) rb p1
    refine ra.strI fun t => SeqAt.in_tuple_reads (xs := toPys xs) r2 (.str _ _) (toPys_ok _ _ p1).1 p2 ?_ ?_
    · exact in_room hA _
    · rw [toPys_any _ _ p2 _ p1, Option.some.inj h]; exact hQ s.toks
  | _ => exact nn h

theorem ev_cmp {op : CmpOp} {a b : Value} {d e : AV} {c : Bool} (S : SR w base env X μ vs own s.heap) (hA : Room A n) (ra : VR w s.heap X μ d a) (rb : VR w s.heap X μ e b) (h : evCmp own op d e = some c) {Q : Value → Shared → Prop}
    (hQ : ∀ tk, Q (.bool c) { s with toks := tk }) : wpAny (model P0 w) A (compareOp op a b) Q noE s := by
  cases op with
  | Eq => exact cmp_eq S hA ra rb h (hQ s.toks)
  | NotEq => exact cmp_ne S hA ra rb h (hQ s.toks)
  | Gt => exact map_any h fun p h1 e => cmp_ints ra rb h1 fun t u => gt_int (e ▸ hQ s.toks)
  | Lt => exact map_any h fun p h1 e => cmp_ints ra rb h1 fun t u => lt_int (e ▸ hQ s.toks)
  | LtE => exact map_any h fun p h1 e => cmp_ints ra rb h1 fun t u => le_int (e ▸ hQ s.toks)
  | GtE => exact map_any h fun p h1 e => cmp_ints ra rb h1 fun t u => ge_int (e ▸ hQ s.toks)
  | In => exact cmp_in S hA ra rb h hQ
  | NotIn =>
    refine bind_any h fun i h0 h => bind_any h fun o q h => bind_any h fun kvs h1 h => map_any h fun t e1 e2 => ?_
    rw [od?_is h1] at q
    rw [lo?_is h0] at rb
    refine vr_key (vr_dec e1 ra) fun ka hkey => own_dct S rb q fun da xs hX _ hd hk => notIn_own hA hkey (S.notSys hX) hd ?_
    rw [(hk.at t).2, e2]
    exact hQ _
  | _ => exact nn h
end

section
variable {w : World} {base : Heap} {mg mb : Str → Option Value} {env : Env} {X μ : List Addr} {vs : Vars} {own own' : Own} {A : Around} {s : Shared} {n : Nat}

theorem VRs.append {h : Heap} {us ws : List Value} {ds es : List AV} (r : VRs w h X μ ds us) (q : VRs w h X μ es ws) : VRs w h X μ (ds ++ es) (us ++ ws) := by
  induction ds generalizing us with
  | nil => exact r.nilI q
  | cons d ds ih => exact r.consI fun _ _ a r => .cons a (ih r)
theorem VRs.get {h : Heap} {us : List Value} {ds : List AV} (r : VRs w h X μ ds us) {i : Nat} {d : AV} (e : ds[i]? = some d) : ∃ u, us[i]? = some u ∧ VR w h X μ d u := by
  induction ds generalizing us i with
  | nil => exact nn e
  | cons d ds ih =>
    exact r.consI fun u us a r => by
      cases i with
      | zero => exact so e ⟨_, rfl, a⟩
      | succ i => exact ih r e

theorem noPy {a b : Int} (h : b.natAbs < 18446744073709551616) : Builtin.divisionGoesByPylong a b = false := by
  refine PyProof.noPylong_of_log2 ?_
  by_cases z : b.natAbs = 0
  · rw [z]; decide
  · have := (Nat.log2_lt z (k := 64)).mpr h
    omega

theorem bin_ints {op : Operator} {a b : Value} {d e : AV} {p : Int × Int} {Q : Value → Shared → Prop} (ra : VR w s.heap X μ d a) (rb : VR w s.heap X μ e b) (h : in2? d e = some p) (k : ∀ t u, wpAny (model P0 w) A (binaryOp op (.int p.1 t) (.int p.2 u)) Q noE s) :
    wpAny (model P0 w) A (binaryOp op a b) Q noE s :=
  ((in2?_is h).1 ▸ ra : VR w s.heap X μ (.int p.1) a).intI fun t => ((in2?_is h).2 ▸ rb : VR w s.heap X μ (.int p.2) b).intI fun u => k t u
theorem add_room {us ws : Array Value} {xs ys : List AV} (h1 : us.size = xs.length) (h2 : ws.size = ys.length) (h : xs.length + ys.length ≤ 100000) : us.size + ws.size ≤ sizeLine := by rw [sizeLine_is]; omega
theorem ev_add {a b : Value} {d e f : AV} (S : SR w base env X μ vs own s.heap) (ra : VR w s.heap X μ d a) (rb : VR w s.heap X μ e b) (h : evAdd own d e = some f) :
    wpAny (model P0 w) A (binaryOp .Add a b) (AftE w base env X μ vs s own f) noE s := by
  unfold evAdd at h
  cases q : in2? d e with
  | some p => rw [q] at h; exact so h (bin_ints ra rb q fun t u => PyProof.Rows.add_int (AftE.tok _ S (.int _ _)))
  | none =>
    rw [q] at h
    cases q : st2? d e with
    | some p =>
      rw [q] at h
      rw [(st2?_is q).1] at ra
      rw [(st2?_is q).2] at rb
      exact ite_then h fun hl h => so h (ra.strI fun t => rb.strI fun u => PyProof.Rows.add_str (fun t' tk => AftE.tok _ S (.str _ _)) (small_size rfl hl))
    | none =>
      rw [q] at h
      refine bind_any h fun xs e1 h => bind_any h fun ys e2 h => ite_then h fun hsz h => so h (lst?_at S ra e1 fun la us hl hs => lst?_at S rb e2 fun lb ws hl' hs' => hl.elim fun k hl => hl'.elim fun m hl' => P.add_list hl hl' ?_ (add_room hs.size hs'.size hsz))
      exact AftE.same (tk := s.toks) S (fun _ _ e => Heap.get?_push_of_some _ e) (by rw [show us ++ ws = (us.toList ++ ws.toList).toArray by simp]; exact vr_lst S (hs.append hs'))
theorem ev_bin {op : Operator} {a b : Value} {d e f : AV} (S : SR w base env X μ vs own s.heap) (ra : VR w s.heap X μ d a) (rb : VR w s.heap X μ e b) (h : evBin own op d e = some f) :
    wpAny (model P0 w) A (binaryOp op a b) (AftE w base env X μ vs s own f) noE s := by
  cases op with
  | Add => exact ev_add S ra rb h
  | Sub => exact mo h fun p h1 => bin_ints ra rb h1 fun t u => PyProof.Rows.sub_int (AftE.tok _ S (.int _ _))
  | Mult => exact bind_any h fun p h1 h => ite_then h fun hm h => so h (bin_ints ra rb h1 fun t u => PyProof.Rows.mul_int (AftE.tok _ S (.int _ _)) (((Bool.or_eq_true _ _).mp hm).elim (fun q => IntMulOk.of_left (of_decide_eq_true q)) fun q => IntMulOk.of_right (of_decide_eq_true q)))
  | Mod => exact bind_any h fun p h1 h => ite_then h fun hm h => so h (and_is hm fun m1 m2 => bin_ints ra rb h1 fun t u => PyProof.Rows.mod_int' (of_decide_eq_true m1) (AftE.tok _ S (.int _ _)))
  | FloorDiv => exact bind_any h fun p h1 h => ite_then h fun hm h => so h (and_is hm fun m1 m2 => bin_ints ra rb h1 fun t u => PyProof.Rows.floordiv_int (of_decide_eq_true m1) (AftE.tok _ S (.int _ _)) (.inl (noPy (of_decide_eq_true m2))))
  | Pow => exact bind_any h fun p h1 h => ite_then h fun hm h => so h (and_is hm fun m1 m2 => bin_ints ra rb h1 fun t u => PyProof.Rows.pow_int (of_decide_eq_true m1) (of_decide_eq_true m2) (AftE.tok _ S (.int _ _)))
  | _ => exact nn h

theorem seqIndex_nat {i m : Nat} (h : i < m) : seqIndex? (Int.ofNat i) m = some i := by
  unfold seqIndex?
  have h1 : ¬ ((i : Int) < 0) := by omega
  have h2 : (decide (0 ≤ (i : Int)) && decide ((i : Int) < (m : Int))) = true := by simp; omega
  simp only [Int.ofNat_eq_natCast, if_neg h1, h2, if_true, Int.toNat_natCast]

theorem sub_ok {slice : Expr} (h : okSlice slice = true) (o i : Value) : subscripted slice false o i = operate [o, i] (getItem o i) := by
  cases slice <;> first | rfl | cases h

noncomputable def tokOf : Option (Option Value) → Tok
  | some (some (.int _ t)) => t
  | _ => 0
theorem bits_at8 (w : World) : ∃ t, nsIn (KK w) 22 (Str.ofString "u8") = some (some (.int 8 t)) := ⟨tokOf (nsIn (KK w) 22 (Str.ofString "u8")), by kernel_rfl⟩
noncomputable def dictIn (o : Option Obj) : Array DictEntry × Nat := (o.bind fun o => match o.data with
  | .dict es n => some (es, n)
  | _ => none).getD (#[], 0)
noncomputable def skey? : Value → Option Str
  | .str x _ => some x
  | _ => none
noncomputable def keyView (l : List DictEntry) : List (Option Str × Int) := l.map fun e => (skey? e.key, e.hash)
theorem keysLit_of {P : Params} {l : List DictEntry} {xs : List Str} (h : keyView l = xs.map (fun x => (some x, PyData.keyHash P x))) : KeysLit P l := by
  induction l generalizing xs with
  | nil => trivial
  | cons e l ih =>
    cases xs with
    | nil => exact (List.cons_ne_nil _ _ h).elim
    | cons x xs =>
      obtain ⟨h1, h2⟩ := List.cons.inj h
      refine ⟨pair_is h1 fun h1 h3 => ?_, ih h2⟩
      cases q : e.key with
      | str y t => rw [q] at h1; exact ⟨y, t, rfl, Option.some.inj h1 ▸ h3⟩
      | _ => rw [q] at h1; exact nn h1
noncomputable def bitsNames : List Str := ["i8", "i16", "i32", "i64", "u8", "u16", "u32", "u64", "usize"].map Str.ofString
theorem bits_view (w : World) : keyView (dictIn ((KK w).lookup 22)).1.toList = bitsNames.map fun x => (some x, PyData.keyHash w.params x) := by kernel_rfl
theorem bits_row (w : World) : (KK w).lookup 22 = some ⟨.type "dict", none, .dict (dictIn ((KK w).lookup 22)).1 (dictIn ((KK w).lookup 22)).2, #[]⟩ := by kernel_rfl
theorem bits_at (w : World) : ∃ es n, (KK w).lookup 22 = some ⟨.type "dict", none, .dict es n, #[]⟩ ∧ KeysLit w.params es.toList := ⟨_, _, bits_row w, keysLit_of (bits_view w)⟩
theorem ev_bits {value slice : Expr} {b : Value} (hs : okSlice slice = true) (G : Gd w base mg mb) (S : SR w base env X μ vs own s.heap) (rb : VR w s.heap X μ (.str (Str.ofString "u8")) b) :
    wpAny (model P0 w) A (subscriptTail value slice (.ref 22) b) (AftE w base env X μ vs s own (.int 8)) noE s := by
  obtain ⟨es, n, hl, hk⟩ := bits_at w
  have X' : (KK w).In s.heap := fun a o e => S.stays _ _ (G.kin a o e)
  have hm := mapOf_K (prog := P0) X' hl hk
  obtain ⟨t, e⟩ := bits_at8 w
  exact rb.strI fun u => tail_any hm.typeIs slot_dict_getitem.lookup (wpAny_getItem_of (strKind_is P0 w _ _) hm (find_K hl e) (AftE.tok _ S (.int _ _))) (sub_ok hs _ _)

theorem get_seq {us : List Value} {xs : List AV} {i : Nat} {f : AV} {P : Prop} (hx : VRs w s.heap X μ xs us) (h : xs[i]? = some f) (k : ∀ u, us[i]? = some u → VR w s.heap X μ f u → P) : P := (hx.get h).elim fun u q => k u q.1 q.2
theorem ix_lo (i : Nat) : (0 : Int) ≤ Int.ofNat i := Int.natCast_nonneg i
theorem ix_hi {i : Nat} (h : i < 100000) : Int.ofNat i < (2 : Int) ^ 63 := by show (i : Int) < _; omega
theorem ix_neg (i : Nat) : -(2 : Int) ^ 63 ≤ Int.ofNat i := by show _ ≤ (i : Int); omega
theorem get_lst {value slice : Expr} {la : Addr} {us : Array Value} {xs : List AV} {b : Value} {e f : AV} (hs : okSlice slice = true) (S : SR w base env X μ vs own s.heap) (hl : PLst s.heap la us) (hx : VRs w s.heap X μ xs us.toList) (rb : VR w s.heap X μ e b) (h : ((ix? e).bind fun i => xs[i]?) = some f) :
    wpAny (model P0 w) A (subscriptTail value slice (.ref la) b) (AftE w base env X μ vs s own f) noE s := by
  refine bind_any h fun i h1 h => ?_
  rw [(ix?_is h1).2] at rb
  exact rb.intI fun t => get_seq hx h fun u e1 r => tail_any hl.is.typeIs slot_list_getitem.lookup (wpAny_getItem_list hl.is (ix_lo i) (ix_hi (ix?_is h1).1) (Array.getElem?_toList.symm.trans e1) (AftE.here S r)) (sub_ok hs _ _)
theorem get_dct {value slice : Expr} {a : Addr} {kvs : List (Str × Value)} {ks : List (Str × AV)} {b : Value} {e f : AV} (hs : okSlice slice = true) (S : SR w base env X μ vs own s.heap) (hd : s.heap.DictOf (PySem.strKind P0 w) a kvs) (hk : VRk w s.heap X μ ks kvs) (rb : VR w s.heap X μ e b) (h : ((st? e).bind fun x => ks.lookup x) = some f) :
    wpAny (model P0 w) A (subscriptTail value slice (.ref a) b) (AftE w base env X μ vs s own f) noE s := by
  refine bind_any h fun x h1 h => ?_
  rw [st?_is h1] at rb
  exact rb.strI fun t => ((valueAt_lookup hk x).1 f h).elim fun v q => tail_any hd.typeIs slot_dict_getitem.lookup (wpAny_getItem_of (knd := PySem.strKind P0 w) (k := x) (by simp [PySem.strKind, Value.isStrOf]) hd.mapOf q.1 (AftE.tok _ S q.2)) (sub_ok hs _ _)
theorem get_own {value slice : Expr} {a : Addr} {o : OD} {b : Value} {e f : AV} (hs : okSlice slice = true) (S : SR w base env X μ vs own s.heap) (hA : Room A n) (q : Ow w s.heap X μ a o) (rb : VR w s.heap X μ e b) (h : ownGet o e = some f) :
    wpAny (model P0 w) A (subscriptTail value slice (.ref a) b) (AftE w base env X μ vs s own f) noE s := by
  cases o with
  | lst xs => exact Exists.elim q fun us q => get_lst hs S q.1 q.2 rb h
  | dct kvs =>
    refine bind_any h fun t e1 e2 => Exists.elim q fun xs q => vr_key (vr_dec e1 rb) fun ka hkey => ((q.2.at t).1 f e2).elim fun p z => ?_
    exact tail_any q.1.typeIs slot_dict_getitem.lookup (wpAny_getItem_heap (knd := tyKind w) (room_ty1 hA) hkey q.1 z.1 (AftE.tok _ S z.2)) (sub_ok hs _ _)
  | sdct kvs => exact Exists.elim q fun us q => get_dct hs S q.1 q.2 rb h
  | _ => exact nn h
theorem get_str {value slice : Expr} {x : Str} {t : Tok} {b : Value} {e f : AV} (hs : okSlice slice = true) (S : SR w base env X μ vs own s.heap) (rb : VR w s.heap X μ e b) (h : ((ix? e).bind fun i => x.cps[i]?.map fun c => .str ⟨#[c]⟩) = some f) :
    wpAny (model P0 w) A (subscriptTail value slice (.str x t) b) (AftE w base env X μ vs s own f) noE s := by
  refine bind_any h fun i h1 h => mo h fun c hc => ?_
  have hi := (ix?_is h1).1
  rw [(ix?_is h1).2] at rb
  have hlt : i < x.length := (Array.getElem?_eq_some_iff.mp hc).1
  refine rb.intI fun u => tail_any (typeIs_str _ _ _) slot_str_getitem.lookup (ops := [.str x _, .int (Int.ofNat i) _]) ?_ (sub_ok hs _ _)
  refine getItem_str (c := c) ?_ ?_ (AftE.tok _ S (.str _ _))
  · rw [decide_eq_false (Int.not_lt.mpr (ix_neg i)), decide_eq_false (Int.not_le.mpr (ix_hi hi))]; rfl
  · rw [seqIndex_nat hlt]; exact hc

theorem ev_get {value slice : Expr} {a b : Value} {d e f : AV} (hs : okSlice slice = true) (G : Gd w base mg mb) (S : SR w base env X μ vs own s.heap) (hA : Room A n) (ra : VR w s.heap X μ d a) (rb : VR w s.heap X μ e b) (h : evGet own d e = some f) :
    wpAny (model P0 w) A (subscriptTail value slice a b) (AftE w base env X μ vs s own f) noE s := by
  cases d with
  | tup xs =>
    refine bind_any h fun i h1 h => ?_
    rw [(ix?_is h1).2] at rb
    exact ra.tupI fun la us hl _ hx => rb.intI fun t => get_seq hx h fun u e1 r => item_tupleT (l := _) (j := i) hl.isT (ix_neg i) (ix_hi (ix?_is h1).1) (seqIndex_nat (List.getElem?_eq_some_iff.mp e1).1) e1 (AftE.here S r) (sub_ok hs _ _)
  | lst xs => exact ra.lstI fun la us hl _ hx => get_lst hs S hl hx rb h
  | dct ks => exact ra.dctI fun a kvs hd _ _ hk => get_dct hs S hd hk rb h
  | str x => exact ra.strI fun t => get_str hs S rb h
  | loc j => exact bind_any h fun o q h => own_at S ra q fun a _ _ q => get_own hs S hA q rb h
  | val v =>
    refine ite_then h fun hv h => bind_any h fun x h1 h => ite_then h fun hx h => so h ?_
    rw [st?_is h1, eq_of_beq hx] at rb
    rw [rf?_is (eq_of_beq hv)] at ra
    exact ra.valI (ev_bits hs G S rb)
  | _ => exact nn h

theorem ev_subscript {R : Rec} (G : Gd w base mg mb) (hE : SE w base n R.e) (ok : EnvOk env) (hA : Room A n) {value slice : Expr} {pos : Pos} {d e f : AV} {own₁ own₂ : Own} (hs : okSlice slice = true) (h1 : R.e env.scope vs own value = some (d, own₁)) (h2 : R.e env.scope vs own₁ slice = some (e, own₂))
    (h3 : evGet own₂ d e = some f) (S : SR w base env X μ vs own s.heap) : wpAny (model P0 w) A (eval (.Subscript value slice pos) env) (AftE w base env X μ vs s own₂ f) noE s := by
  refine Subscript_ (then_E (hE.ok h1 ok hA S) fun v X₁ μ₁ k₁ tk₁ T₁ g₁ S₁ r₁ => ?_)
  refine then_E (hE.ok (s := { s with heap := k₁, toks := tk₁ }) h2 ok hA S₁) fun v₂ X₂ μ₂ k₂ tk₂ T₂ g₂ S₂ r₂ => ?_
  refine wpAny_mono (ev_get (s := { s with heap := k₂, toks := tk₂ }) hs G S₂ hA (T₂.vr S₁.sub83 r₁) r₂ h3) (fun v₃ s₃ q => ?_) fun _ _ e => e
  exact AftE.from T₁ g₁ (AftE.from (s := { s with heap := k₁, toks := tk₁ }) T₂ g₂ q)

theorem ev_binop {R : Rec} (hE : SE w base n R.e) (ok : EnvOk env) (hA : Room A n) {l r : Expr} {op : Operator} {pos : Pos} {d e f : AV} {own₁ own₂ : Own} (h1 : R.e env.scope vs own l = some (d, own₁)) (h2 : R.e env.scope vs own₁ r = some (e, own₂))
    (h3 : evBin own₂ op d e = some f) (S : SR w base env X μ vs own s.heap) : wpAny (model P0 w) A (eval (.BinOp l op r pos) env) (AftE w base env X μ vs s own₂ f) noE s := by
  refine wpAny_BinOp (then_E (hE.ok h1 ok hA S) fun v X₁ μ₁ k₁ tk₁ T₁ g₁ S₁ r₁ => ?_)
  refine then_E (hE.ok (s := { s with heap := k₁, toks := tk₁ }) h2 ok hA S₁) fun v₂ X₂ μ₂ k₂ tk₂ T₂ g₂ S₂ r₂ => ?_
  refine wpAny_mono (ev_bin (s := { s with heap := k₂, toks := tk₂ }) S₂ (T₂.vr S₁.sub83 r₁) r₂ h3) (fun v₃ s₃ q => ?_) fun _ _ e => e
  exact AftE.from T₁ g₁ (AftE.from (s := { s with heap := k₁, toks := tk₁ }) T₂ g₂ q)

theorem ev_compare {R : Rec} (hE : SE w base n R.e) (ok : EnvOk env) (hA : Room A n) {l r : Expr} {op : CmpOp} {pos : Pos} {d e : AV} {c : Bool} {own₁ own₂ : Own} (hm : behindInMarks op r = false) (h1 : R.e env.scope vs own l = some (d, own₁)) (h2 : R.e env.scope vs own₁ r = some (e, own₂))
    (h3 : evCmp own₂ op d e = some c) (S : SR w base env X μ vs own s.heap) :
    wpAny (model P0 w) A (eval (.Compare l [op] [r] pos) env) (AftE w base env X μ vs s own₂ (.bool c)) noE s ∧
    ∀ whole, wpAny (model P0 w) A (isTrue (.Compare l [op] [r] pos) env whole) (AftB w base env X μ vs s own₂ c) noE s := by
  have key : ∀ {Q : Value → Shared → Prop}, (∀ X₂ μ₂ h₂ tk, St (83 :: μ) X μ s.heap X₂ μ₂ h₂ → (∀ a ∈ X, a ∈ X₂) → SR w base env X₂ μ₂ vs own₂ h₂ → Q (.bool c) { s with heap := h₂, toks := tk }) →
      wpAny (model P0 w) A (eval l env) (fun v s₁ => wpAny (model P0 w) A (eval r env) (fun u s₂ => wpAny (model P0 w) A (compareOp op v u) Q noE s₂) noE s₁) noE s := fun hQ =>
    then_E (hE.ok h1 ok hA S) fun v X₁ μ₁ k₁ tk₁ T₁ g₁ S₁ r₁ => then_E (hE.ok (s := { s with heap := k₁, toks := tk₁ }) h2 ok hA S₁) fun v₂ X₂ μ₂ k₂ tk₂ T₂ g₂ S₂ r₂ =>
      ev_cmp (s := { s with heap := k₂, toks := tk₂ }) S₂ hA (T₂.vr S₁.sub83 r₁) r₂ h3 fun tk => hQ X₂ μ₂ k₂ tk (T₁.trans83 T₂) (fun a ha => g₂ a (g₁ a ha)) S₂
  exact ⟨wpAny_Compare1 (key fun X₂ μ₂ h₂ tk T g S => ⟨X₂, μ₂, h₂, tk, rfl, T, g, S, .bool c⟩) hm, fun whole => wpAny_isTrue_Compare1 (key fun X₂ μ₂ h₂ tk T g S => wpAny_truthy_bool ⟨X₂, μ₂, h₂, tk, rfl, T, g, S, rfl⟩) hm⟩

theorem lookIn_of {h : Heap} {es : List DictEntry} {n : Nat} {fs : List (Str × AV)} (r : VRf w h X μ fs es) {x : Str} {d : AV} (e : fs.lookup x = some d) : ∃ v, lookIn x (dictOf es n) = some (some v) ∧ VR w h X μ d v := by
  have key : ∃ en, es.find? (fun y => y.key.isStr x) = some en ∧ VR w h X μ d en.val := by
    induction fs generalizing es with
    | nil => exact nn e
    | cons f fs ih =>
      cases r with
      | @cons en es y t d' _ hk rv r =>
        rw [List.lookup_cons] at e
        rw [List.find?_cons, hk]
        show ∃ en', (match (y == x) with | true => some en | false => es.find? fun y => y.key.isStr x) = some en' ∧ _
        by_cases q : y = x
        · subst q
          rw [beq_self_eq_true] at e ⊢
          exact ⟨en, rfl, Option.some.inj e ▸ rv⟩
        · rw [show (x == y) = false from beq_eq_false_iff_ne.mpr fun z => q z.symm] at e
          rw [show (y == x) = false from beq_eq_false_iff_ne.mpr q]
          exact ih r e
  obtain ⟨en, z, rr⟩ := key
  exact ⟨en.val, by simp [lookIn, dictOf, z], rr⟩
noncomputable def chkA (w : World) (C : Addr) (x : Str) : Bool := hasDictIn (KK w) C && ((findIn (KK w) (.ref C) x == some none) && (findIn (KK w) (.ref C) (Str.ofString "__getattribute__") == some (some (.builtin "object.__getattribute__"))))
theorem attrs_ok (w : World) : (attrsOk.all fun e => chkA w e.1 e.2) = true := by kernel_rfl

theorem vr_handed {h : Heap} {v : Value} {d : AV} (r : VR w h X μ d v) (hd : isVal d = false) : handedIn v = true := by
  cases d with
  | none => exact r.noneI rfl
  | bool b => exact r.boolI rfl
  | int i => exact r.intI fun _ => rfl
  | str x => exact r.strI fun _ => rfl
  | tup xs => exact r.tupI fun _ _ _ _ _ => rfl
  | lst xs => exact r.lstI fun _ _ _ _ _ => rfl
  | val v => exact Bool.noConfusion hd
  | loc i => exact r.locI fun _ _ => rfl
  | inst C fs => exact r.instI fun _ _ _ _ _ _ _ _ _ => rfl
  | dct ks => exact r.dctI fun _ _ _ _ _ _ => rfl
  | clo d => exact r.cloI fun _ _ => rfl
  | ty t => exact vr_key r.tyI fun _ _ => rfl

theorem ev_attr {a : Value} {x : Str} {d f : AV} (G : Gd w base mg mb) (S : SR w base env X μ vs own s.heap) (ra : VR w s.heap X μ d a) (h : evAttr d x = some f) :
    wpAny (model P0 w) A (getAttr a x true) (AftE w base env X μ vs s own f) noE s := by
  refine bind_any h fun p h1 h => ite_then h fun hin h => bind_any h fun d' e h => ite_else h fun hv h => so h ?_
  rw [it?_is h1] at ra
  obtain ⟨q, hq, hqe⟩ := List.any_eq_true.mp hin
  refine and_is hqe fun q1 q2 => and_is (List.all_eq_true.mp (attrs_ok w) q hq) fun c3 c => and_is c fun c2 c1 => ?_
  rw [eq_of_beq q1] at c1 c2 c3
  rw [eq_of_beq q2] at c2
  refine ra.instI fun a d es m h1 h2 a1 a2 r => (lookIn_of (n := m) r e).elim fun v z => ?_
  refine get_value (K := KK w) (od := some (dictOf es m)) (fun a o e => S.stays _ _ (G.kin a o e)) ⟨h1, rfl, rfl, h2⟩ (eq_of_beq c1) ?_ (vr_handed z.2 (Bool.not_eq_true _ ▸ hv)) (AftE.tok _ S z.2)
  unfold findObj
  unfold hasDictIn at c3
  cases hcl : clsIn (KK w) p.1 with
  | none => rw [hcl] at c3; exact ff c3
  | some cd =>
    rw [hcl, Option.any_some] at c3
    simp only [Option.bind_some, eq_of_beq c2, W.ownOf, c3, if_true, z.1]
theorem ev_attribute {R : Rec} (G : Gd w base mg mb) (hE : SE w base n R.e) (ok : EnvOk env) (hA : Room A n) {value : Expr} {x : Str} {pos : Pos} {d f : AV} {own₁ : Own} (hb : attributeBase value x env (eval value env) = eval value env) (h1 : R.e env.scope vs own value = some (d, own₁))
    (h2 : evAttr d x = some f) (S : SR w base env X μ vs own s.heap) : wpAny (model P0 w) A (eval (.Attribute value x pos) env) (AftE w base env X μ vs s own₁ f) noE s := by
  refine Attribute_any_ (then_E (hE.ok h1 ok hA S) fun v X₁ μ₁ k₁ tk₁ T₁ g₁ S₁ r₁ => ?_) ?_
  · exact wpAny_mono (ev_attr (s := { s with heap := k₁, toks := tk₁ }) G S₁ r₁ h2) (fun v₃ s₃ q => AftE.from T₁ g₁ q) fun _ _ e => e
  · rw [arm_eval_Attribute, hb]
end

noncomputable def fdIn (o : Option Obj) : Option FuncData := o.bind fun o => match o.data with
  | .func fd => some fd
  | _ => none
noncomputable def fdOf (w : World) (a : Nat) : Option FuncData := fdIn ((KK w).lookup a)
theorem fdOf_at {w : World} {a : Nat} {fd : FuncData} (h : fdOf w a = some fd) : ∃ oc od osl, (KK w).lookup a = some ⟨oc, od, .func fd, osl⟩ := bind_any h fun o h1 h2 => by
  obtain ⟨oc, od, dt, osl⟩ := o
  cases dt with
  | func fd' => exact ⟨oc, od, osl, h1.trans (Option.some.inj h2 ▸ rfl)⟩
  | _ => exact nn h2
noncomputable def Binds (fd : FuncData) (ns : List Str) : Prop := ∀ f : Nat → Value, bindArgs fd ⟨(List.range ns.length).map f, []⟩ = pure (ns.zip ((List.range ns.length).map f))
theorem Binds.ok {fd : FuncData} {ns : List Str} (h : Binds fd ns) {vs : List Value} (hl : ns.length = vs.length) : bindArgs fd ⟨vs, []⟩ = pure (ns.zip vs) := by
  have e : (List.range ns.length).map (fun i => (vs[i]?).getD .none) = vs := by
    rw [hl]
    refine List.ext_getElem (by rw [List.length_map, List.length_range]) fun i h1 h2 => ?_
    rw [List.getElem_map, List.getElem_range, List.getElem?_eq_getElem h2, Option.getD_some]
  have := h fun i => (vs[i]?).getD .none
  rwa [e] at this
structure FdOk (w : World) (a : Nat) (fn : Fn) (fd : FuncData) : Prop where
  at_ : ∃ oc od osl, (KK w).lookup a = some ⟨oc, od, .func fd, osl⟩
  sc : fd.scope = fn.sc
  body : fd.body = .stmts fn.body
  closure : fd.closure = []
  globals : fd.globals = mainGlobals
  builtins : fd.builtins = builtinsNs
  binds : Binds fd fn.params
  code : codeIn (KK w) fd.code fd.qualname = true
  put : fn.sc.names.lookup (Str.ofString "put_in") = some .cell → fd.code = .ref 85 ∧ fd.qualname = Str.ofString "fields_of"

noncomputable abbrev look (fd : FuncData) := (fd.scope, fd.body, fd.closure, fd.globals, fd.builtins)
noncomputable abbrev want (fn : Fn) : Scope × FuncBody × List (Str × Addr) × Addr × Addr := (fn.sc, .stmts fn.body, [], mainGlobals, builtinsNs)

structure GoodFn (fn : Fn) : Prop where
  kind : fn.sc.kind = .function
  co : fn.sc.isCoroutine = false
  gen : fn.sc.isGenerator = false
  nd : fn.params.Nodup
  ps : ∀ x ∈ fn.params, fn.sc.names.lookup x = some .local ∨ fn.sc.names.lookup x = some .cell
  nn : (fn.sc.names.map (·.1)).Nodup
  nf : ∀ y ∈ fn.sc.names, y.2 ≠ .free
noncomputable def goodFn (fn : Fn) : Bool := (fn.sc.kind == .function && (!fn.sc.isCoroutine && !fn.sc.isGenerator)) && (decide (fn.params.Nodup) && ((fn.params.all fun x => fn.sc.names.lookup x == some .local || fn.sc.names.lookup x == some .cell) && (decide ((fn.sc.names.map (·.1)).Nodup) && fn.sc.names.all fun y => y.2 != .free)))
theorem goodFn_is {fn : Fn} (h : goodFn fn = true) : GoodFn fn := and_is h fun h h' => and3 h fun h1 h2 h3 => and3 h' fun h4 h5 h6 => and_is h6 fun h6 h7 =>
  ⟨eq_of_beq h1, Bool.not_inj (h2.trans rfl), Bool.not_inj (h3.trans rfl), of_decide_eq_true h4, fun x hx => ((Bool.or_eq_true _ _).mp (List.all_eq_true.mp h5 x hx)).imp eq_of_beq eq_of_beq, of_decide_eq_true h6, fun y hy => bne_iff_ne.mp (List.all_eq_true.mp h7 y hy)⟩
theorem good_all : (fnTab.all fun e => (fnAt e.1).all goodFn) = true := by decide +kernel

theorem fd_look (w : World) : (fnTab.map fun e => (fdOf w e.1).map look) = fnTab.map fun e => (fnAt e.1).map want := by kernel_rfl
theorem fd_code (w : World) : (fnTab.all fun e => (fdOf w e.1).any fun fd => codeIn (KK w) fd.code fd.qualname) = true := by kernel_rfl
noncomputable abbrev bindL_ (fd : FuncData) (n : Nat) (f : Nat → Value) : Sem (List (Str × Value)) := bindArgs fd ⟨(List.range n).map f, []⟩
noncomputable abbrev bindR_ (ns : List Str) (f : Nat → Value) : Sem (List (Str × Value)) := pure (ns.zip ((List.range ns.length).map f))
theorem fd_bind (w : World) : (fnTab.map fun e => (fnAt e.1).bind fun fn => (fdOf w e.1).map fun fd => bindL_ fd fn.params.length) = fnTab.map fun e => (fnAt e.1).map fun fn => bindR_ fn.params := by kernel_rfl
noncomputable def putAt? (fd : FuncData) : Option (Value × Str) := if fd.scope.names.lookup (Str.ofString "put_in") == some .cell then some (fd.code, fd.qualname) else none
theorem fd_put (w : World) : (fnTab.map fun e => (fdOf w e.1).map putAt?) = fnTab.map fun e => some (if e.1 == 86 then some (.ref 85, Str.ofString "fields_of") else none) := by kernel_rfl

theorem mem_lookup {α : Type} {l : List (Nat × α)} {a : Nat} {b : α} (h : l.lookup a = some b) : (a, b) ∈ l := by
  induction l with
  | nil => exact nn h
  | cons e l ih =>
    rw [List.lookup_cons] at h
    cases q : a == e.1 with
    | true => rw [q] at h; exact List.mem_cons.mpr (.inl (Prod.ext (eq_of_beq q) (Option.some.inj h).symm))
    | false => rw [q] at h; exact List.mem_cons_of_mem _ (ih h)
theorem fn_row {a : Nat} {fn : Fn} (h : fnAt a = some fn) : ∃ i, (a, i) ∈ fnTab := bind_any h fun i hi _ => ⟨i, mem_lookup hi⟩
theorem fn_ok (w : World) {a : Nat} {fn : Fn} (h : fnAt a = some fn) : ∃ fd, FdOk w a fn fd ∧ GoodFn fn := by
  obtain ⟨i, hm⟩ := fn_row h
  have e1 : (fdOf w a).map look = (fnAt a).map want := List.map_inj_left.mp (fd_look w) (a, i) hm
  have e2 := List.all_eq_true.mp (fd_code w) (a, i) hm
  have e3 : (fnAt a).all goodFn = true := List.all_eq_true.mp good_all (a, i) hm
  have e4 : (fdOf w a).map putAt? = some (if a == 86 then some (.ref 85, Str.ofString "fields_of") else none) := List.map_inj_left.mp (fd_put w) (a, i) hm
  have e5 : ((fnAt a).bind fun fn => (fdOf w a).map fun fd => bindL_ fd fn.params.length) = (fnAt a).map fun fn => bindR_ fn.params := List.map_inj_left.mp (fd_bind w) (a, i) hm
  rw [h] at e1 e3 e5
  obtain ⟨fd, hf, e2⟩ := opt_any e2
  have hf : fdOf w a = some fd := hf
  rw [hf] at e1 e4 e5
  have e1 := Option.some.inj e1
  refine ⟨fd, ⟨fdOf_at hf, congrArg (·.1) e1, congrArg (·.2.1) e1, congrArg (·.2.2.1) e1, congrArg (·.2.2.2.1) e1, congrArg (·.2.2.2.2) e1, fun f => congrFun (Option.some.inj e5) f, e2, fun hp => ?_⟩, goodFn_is e3⟩
  have e4 := Option.some.inj e4
  unfold putAt? at e4
  rw [show fd.scope = fn.sc from congrArg (·.1) e1, hp, if_pos (beq_self_eq_true _)] at e4
  exact ite_any e4.symm (fun _ q => pair_is (Option.some.inj q) fun q1 q2 => ⟨q1.symm, q2.symm⟩) fun _ => nn

structure Core (w : World) (base : Heap) (X μ : List Addr) (own : Own) (h : Heap) : Prop where
  stays : base.StaysIn h
  baseX : ∀ a ∈ X, base.get? a = none ∧ 83 ≤ a ∧ ∃ o, h.get? a = some o
  tabX : 83 ∈ X
  tab : TabOk h X
  own : Owns w h X μ μ own
  subμ : ∀ a ∈ μ, a ∈ X
  apart : ((83 : Addr) :: μ).Nodup

noncomputable abbrev cellsOf (env : Env) : List Addr := env.cells.map (·.2)
noncomputable abbrev WS (env : Env) (μ : List Addr) : List Addr := 83 :: env.locals :: (cellsOf env ++ μ)

structure SRs (w : World) (base : Heap) (env : Env) (X μ : List Addr) (vs : Vars) (own : Own) (h : Heap) : Prop where
  sr : SR w base env X μ vs own h
  cin : (vs.all fun v => !isClo v.2) = true → ∀ x c, env.cells.lookup x = some c → c ∈ X
  cat : ∀ x c, env.cells.lookup x = some c → (∃ v, h.IsCell c v) ∧ c ∉ μ ∧ c ≠ 83 ∧ c ≠ env.locals
  cinj : ∀ x y c, env.cells.lookup x = some c → env.cells.lookup y = some c → x = y
  cmem : ∀ c ∈ cellsOf env, ∃ x, env.cells.lookup x = some c

noncomputable def FlowIs (w : World) (h : Heap) (X μ : List Addr) (f : Flow) : Fl → Prop
  | .next => f = .next
  | .ret d => ∃ v, f = .ret v ∧ VR w h X μ d v

inductive AftS (w : World) (base : Heap) (env : Env) (X μ : List Addr) (s : Shared) (vs' : Vars) (own' : Own) (fl : Fl) (f : Flow) (s' : Shared) : Prop
  | mk (X' μ' : List Addr) (h' : Heap) (tk : Tok) (e : s' = { s with heap := h', toks := tk }) (T : St (WS env μ) X μ s.heap X' μ' h') (g : ∀ a ∈ X, a ∉ cellsOf env → a ∈ X') (S : SRs w base env X' μ' vs' own' h') (f : FlowIs w h' X' μ' f fl)
inductive AftC (w : World) (base : Heap) (X μ : List Addr) (s : Shared) (own' : Own) (d : AV) (v : Value) (s' : Shared) : Prop
  | mk (h' : Heap) (tk : Tok) (e : s' = { s with heap := h', toks := tk }) (T : St (83 :: μ) X μ s.heap X μ h') (C : Core w base X μ own' h') (r : VR w h' X μ d v)

structure SSs (w : World) (base : Heap) (n : Nat) (f : Scope → Vars → Own → List Stmt → Option (Fl × Vars × Own)) : Prop where
  ok : ∀ {env : Env} {X μ : List Addr} {vs vs' : Vars} {own : Own} {ss : List Stmt} {fl : Fl} {own' : Own} {A : Around} {s : Shared}, f env.scope vs own ss = some (fl, vs', own') → EnvOk env → Room A n → SRs w base env X μ vs own s.heap →
    wpAny (model P0 w) A (execs ss env) (AftS w base env X μ s vs' own' fl) noE s
structure SC (w : World) (base : Heap) (n : Nat) (f : AV → List AV → Own → Option (AV × Own)) : Prop where
  ok : ∀ {X μ : List Addr} {g : AV} {ds : List AV} {own : Own} {d : AV} {own' : Own} {v : Value} {us : List Value} {A : Around} {s : Shared}, f g ds own = some (d, own') → Room A n → Core w base X μ own s.heap → VR w s.heap X μ g v → VRs w s.heap X μ ds us →
    wpAny (model P0 w) A (call v us []) (AftC w base X μ s own' d) noE s

section
variable {w : World} {base : Heap} {mg mb : Str → Option Value} {env : Env} {X μ : List Addr} {vs : Vars} {own own' : Own} {A : Around} {s : Shared} {n : Nat}

theorem SR.core {h : Heap} (S : SR w base env X μ vs own h) : Core w base X μ own h := ⟨S.stays, S.baseX, S.tabX, S.tab, S.own, S.subμ, List.nodup_cons.mpr ⟨S.a2, S.a4⟩⟩
theorem Core.sub83 {h : Heap} (S : Core w base X μ own h) : ∀ a ∈ (83 :: μ : List Addr), a ∈ X := fun a ha => (List.mem_cons.mp ha).elim (fun q => q ▸ S.tabX) (S.subμ a)
theorem SR.locW {h : Heap} (S : SR w base env X μ vs own h) : env.locals ∉ (83 :: μ : List Addr) := fun q => (List.mem_cons.mp q).elim (fun q => S.a1 q.symm) S.a3

theorem SR.back {h h' : Heap} (S : SR w base env X μ vs own h) (T : St (83 :: μ) X μ h X μ h') (C : Core w base X μ own' h') : SR w base env X μ vs own' h' :=
  ⟨C.stays, C.baseX, C.tabX, C.tab, C.own, C.subμ, S.apart, S.locX,
    S.ns.imp fun m q => ⟨q.1.elim fun o r => r.elim fun es r => r.elim fun ep r => ⟨o, es, ep, T.keep _ _ r.1 S.locW, r.2⟩, fun x d e k => (q.2 x d e k).imp fun v r => ⟨r.1, T.vr S.sub83 r.2⟩⟩,
    fun x d e k => (S.cells x d e k).imp fun c q => q.imp fun v q => ⟨q.1, IsCell.up q.2.1 fun o ho => T.keep _ _ ho fun z => (List.mem_cons.mp z).elim q.2.2.2.1 q.2.2.1, q.2.2.1, q.2.2.2.1, q.2.2.2.2.1, T.vr S.sub83 q.2.2.2.2.2⟩⟩

theorem VR.closed {h : Heap} {X' μ' : List Addr} {k : Nat} (hX : ∀ a ∈ X, a ∈ X') (hμ : ∀ i, i < k → μ[i]? = μ'[i]?) {v : Value} {d : AV} (r : VR w h X' μ' d v) (hc : closed k d = true) : VR w h X μ d v :=
  VR.rec (motive_1 := fun d v _ => Mine.closed k d = true → VR w h X μ d v) (motive_2 := fun d v _ => closeds k d = true → VRs w h X μ d v) (motive_3 := fun d v _ => closedF k d = true → VRf w h X μ d v) (motive_4 := fun d v _ => closedF k d = true → VRk w h X μ d v)
    (fun _ => .none) (fun b _ => .bool b) (fun i t _ => .int i t) (fun i t _ => .str i t) (fun a b _ ih hc => .tup a (fun q => b (hX _ q)) (ih hc)) (fun a b _ ih hc => .lst a (fun q => b (hX _ q)) (ih hc)) (fun v _ => .val v) (fun e hc => .loc ((hμ _ (of_decide_eq_true hc)).trans e))
    (fun a b c d _ ih hc => .inst a b (fun q => c (hX _ q)) (fun q => d (hX _ q)) (ih hc)) (fun a b c _ ih hc => .dct a (fun q => b (hX _ q)) c (ih hc)) (fun a1 a2 a3 a4 a5 a6 a7 a8 a9 a10 _ ih hc => .clo a1 a2 a3 a4 a5 a6 a7 (fun q => a8 (hX _ q)) (fun q => a9 (hX _ q)) (fun q => a10 (hX _ q)) (ih hc))
    (fun r _ _ => .ty ((r.plainμ 4 (plain_enc _) μ).weak hX)) (fun _ => .nil) (fun _ _ a b hc => and_is hc fun h1 h2 => .cons (a h1) (b h2)) (fun _ => .nil) (fun e _ _ a b hc => and_is hc fun h1 h2 => .cons e (a h1) (b h2)) (fun _ => .nil) (fun _ _ a b hc => and_is hc fun h1 h2 => .cons (a h1) (b h2)) r hc
theorem VRs.closed {h : Heap} {X' μ' : List Addr} {k : Nat} (hX : ∀ a ∈ X, a ∈ X') (hμ : ∀ i, i < k → μ[i]? = μ'[i]?) {v : List Value} {d : List AV} (r : VRs w h X' μ' d v) (hc : closeds k d = true) : VRs w h X μ d v := by
  induction d generalizing v with
  | nil => exact r.nilI .nil
  | cons d ds ih => exact and_is hc fun h1 h2 => r.consI fun _ _ a r => .cons (a.closed hX hμ h1) (ih r h2)
theorem VRk.closed {h : Heap} {X' μ' : List Addr} {k : Nat} (hX : ∀ a ∈ X, a ∈ X') (hμ : ∀ i, i < k → μ[i]? = μ'[i]?) {v : List (Str × Value)} {d : List (Str × AV)} (r : VRk w h X' μ' d v) (hc : closedF k d = true) : VRk w h X μ d v := by
  induction d generalizing v with
  | nil => exact r.nilI .nil
  | cons d ds ih => exact and_is hc fun h1 h2 => r.consI fun _ _ a r => .cons (a.closed hX hμ h1) (ih r h2)

theorem VRt.closed {h : Heap} {X' μ' : List Addr} {k : Nat} (hX : ∀ a ∈ X, a ∈ X') (hμ : ∀ i, i < k → μ[i]? = μ'[i]?) {xs : List (Ty × Addr × Value)} {kvs : List (Ty × AV)} (r : VRt w h X' μ' xs kvs) (hc : (kvs.all fun kv => Mine.closed k kv.2) = true) : VRt w h X μ xs kvs := by
  induction r with
  | nil => exact .nil
  | cons a b _ ih => exact and_is hc fun h1 h2 => .cons ((a.plainμ 4 (plain_enc _) μ).weak hX) (b.closed hX hμ h1) (ih h2)
theorem OIs.closed {h : Heap} {X' μ' : List Addr} {k : Nat} (hX : ∀ a ∈ X, a ∈ X') (hμ : ∀ i, i < k → μ[i]? = μ'[i]?) {a : Addr} {o : OD} (r : OIs w h X' μ' a o) (hc : closedOD k o = true) : OIs w h X μ a o :=
  r.casesOn (motive := fun o _ => closedOD k o = true → OIs w h X μ a o) (fun hl r hc => .lst hl (r.closed hX hμ hc)) (fun hd r hc => .dct hd (r.closed hX hμ hc)) (fun hd r hc => .sdct hd (r.closed hX hμ hc)) (fun hl _ => .src hl) (fun hd _ => .one hd) hc
theorem Owns.closed {h : Heap} {X' μ' : List Addr} {k : Nat} (hX : ∀ a ∈ X, a ∈ X') (hμ : ∀ i, i < k → μ[i]? = μ'[i]?) {as : List Addr} {os : Own} (r : Owns w h X' μ' as os) (hc : os.all (closedOD k) = true) : Owns w h X μ as os := by
  induction r with
  | nil => exact .nil
  | cons a _ ih => exact and_is hc fun h1 h2 => .cons (a.closed hX hμ h1) (ih h2)

structure Gone (w : World) (h : Heap) (X μ X' μ' : List Addr) (own' : Own) (k : Nat) : Prop where
  sub : ∀ a ∈ X, a ∈ X'
  pre : ∀ i, i < k → μ[i]? = μ'[i]?
  own : Owns w h X' μ' μ' own'
  off : ∀ i a, k ≤ i → μ'[i]? = some a → a ∉ X
  sys : ∀ a ∈ μ', (a == sysModules) = false

theorem VRt.length {h : Heap} {xs : List (Ty × Addr × Value)} {kvs : List (Ty × AV)} (r : VRt w h X μ xs kvs) : xs.length = kvs.length := by
  induction r with
  | nil => rfl
  | cons _ _ _ ih => exact congrArg (· + 1) ih

theorem DictOfH.nil {h : Heap} {a : Addr} {K : Type} [DecidableEq K] {knd : KeyKind P0 w K} {xs : List (Ty × Addr × Value)} (hd : h.DictOfH (tyKind w) a xs) (r : VRt w h X μ xs []) : h.DictOf knd a [] := by
  have hx : xs = [] := List.length_eq_zero_iff.mp r.length
  obtain ⟨o, es, ep, ho, hc, hdt, he, his, hn⟩ := hd
  have : es = #[] := Array.eq_empty_of_size_eq_zero (by rw [← Array.length_toList, he, hx]; rfl)
  rw [this] at hdt
  exact ⟨o, #[], ep, ho, hc, hdt, fun _ h => absurd h (Array.not_mem_empty _), .nil, .nil⟩
theorem resolve_loc {h : Heap} {X' μ' : List Addr} {k : Nat} {own' : Own} (g : Gone w h X μ X' μ' own' k) {i : Nat} {a : Addr} {d : AV} (m : μ'[i]? = some a) (e : Mine.resolve own' k (.loc i) = some d) : VR w h X μ d (.ref a) := by
  have lo : ∀ i, i < 0 → μ[i]? = μ'[i]? := fun i hi => absurd hi (Nat.not_lt_zero _)
  refine ite_any e (fun hlt e => so e (.loc ((g.pre _ hlt).trans m))) fun hlt e => bind_any e fun o q e => ?_
  have off := g.off i a (Nat.le_of_not_lt hlt) m
  obtain ⟨a', m', w'⟩ := g.own.get q
  rw [← Option.some.inj (m.symm.trans m')] at w'
  cases o with
  | lst xs => exact ite_then e fun hc e => so e (Exists.elim w'.ow fun us r => .lst r.1 off (r.2.closed g.sub (k := 0) lo hc))
  | sdct kvs => exact ite_then e fun hc e => so e (Exists.elim w'.ow fun us r => .dct r.1 off (g.sys a (List.mem_of_getElem? m)) (r.2.closed g.sub (k := 0) lo hc))
  | dct kvs =>
    refine ite_then e fun hc e => so e (Exists.elim w'.ow fun xs r => ?_)
    rw [List.isEmpty_iff.mp hc] at r
    exact .dct (DictOfH.nil r.1 r.2) off (g.sys a (List.mem_of_getElem? m)) .nil
  | _ => exact nn e
theorem VR.resolve {h : Heap} {X' μ' : List Addr} {k : Nat} {own' : Own} (g : Gone w h X μ X' μ' own' k) {v : Value} {d d' : AV} (r : VR w h X' μ' d v) (e : Mine.resolve own' k d = some d') : VR w h X μ d' v := by
  revert d'
  exact VR.rec (motive_1 := fun d v _ => ∀ {d'}, Mine.resolve own' k d = some d' → VR w h X μ d' v) (motive_2 := fun d v _ => ∀ {d'}, Mine.resolves own' k d = some d' → VRs w h X μ d' v) (motive_3 := fun d v _ => ∀ {d'}, Mine.resolveF own' k d = some d' → VRf w h X μ d' v) (motive_4 := fun d v _ => ∀ {d'}, Mine.resolveF own' k d = some d' → VRk w h X μ d' v)
    (fun e => so e .none) (fun b _ e => so e (.bool b)) (fun i t _ e => so e (.int i t)) (fun i t _ e => so e (.str i t)) (fun a b _ ih _ e => mo e fun xs e1 => .tup a (fun q => b (g.sub _ q)) (ih e1)) (fun a b _ ih _ e => mo e fun xs e1 => .lst a (fun q => b (g.sub _ q)) (ih e1))
    (fun v _ e => so e (.val v)) (fun m _ e => resolve_loc g m e) (fun a b c d _ ih _ e => mo e fun xs e1 => .inst a b (fun q => c (g.sub _ q)) (fun q => d (g.sub _ q)) (ih e1)) (fun a b c _ ih _ e => mo e fun xs e1 => .dct a (fun q => b (g.sub _ q)) c (ih e1))
    (fun a1 a2 a3 a4 a5 a6 a7 a8 a9 a10 _ ih _ e => mo e fun xs e1 => .clo a1 a2 a3 a4 a5 a6 a7 (fun q => a8 (g.sub _ q)) (fun q => a9 (g.sub _ q)) (fun q => a10 (g.sub _ q)) (ih e1)) (fun r _ _ e => so e (.ty ((r.plainμ 4 (plain_enc _) μ).weak g.sub)))
    (fun e => so e .nil) (fun _ _ a b _ e => bind_any e fun d1 e1 e2 => mo e2 fun xs e3 => .cons (a e1) (b e3)) (fun e => so e .nil) (fun kk _ _ a b _ e => bind_any e fun d1 e1 e2 => mo e2 fun xs e3 => .cons kk (a e1) (b e3)) (fun e => so e .nil) (fun _ _ a b _ e => bind_any e fun d1 e1 e2 => mo e2 fun xs e3 => .cons (a e1) (b e3)) r
end

theorem mem_fst {α : Type} {l : List (Str × α)} {p : Str × α} (h : p ∈ l) : p.1 ∈ l.map (·.1) := List.mem_map.mpr ⟨p, h, rfl⟩

theorem lookup_self {α : Type} (x : Str) (v : α) (r : List (Str × α)) : ((x, v) :: r).lookup x = some v := by rw [List.lookup_cons, beq_self_eq_true]
theorem lookup_ne {α : Type} {x y : Str} (h : x ≠ y) (v : α) (r : List (Str × α)) : ((y, v) :: r).lookup x = r.lookup x := by rw [List.lookup_cons, show (x == y) = false from beq_eq_false_iff_ne.mpr h]
theorem lookup_cases {α : Type} {x y : Str} {v d : α} {r : List (Str × α)} {P : Prop} (h : ((y, v) :: r).lookup x = some d) (k : x = y → v = d → P) (l : x ≠ y → r.lookup x = some d → P) : P :=
  (Decidable.em (x = y)).elim (fun e => k e (Option.some.inj ((lookup_self y v r).symm.trans (e ▸ h)))) fun e => l e ((lookup_ne e v r).symm.trans h)
theorem bindL_off (kindOf : Str → Option NameKind) (binds : List (Str × Value)) (m : Str → Option Value) (x : Str) (h : x ∉ binds.map (·.1)) : bindL kindOf binds m x = m x := by
  induction binds generalizing m with
  | nil => rfl
  | cons b r ih =>
    refine (ih _ fun q => h (List.mem_cons_of_mem _ q)).trans ?_
    by_cases q : kindOf b.1 = some .local
    · rw [if_pos q]; exact if_neg fun q => h (List.mem_cons.mpr (.inl q))
    · rw [if_neg q]
theorem bindL_at (kindOf : Str → Option NameKind) (binds : List (Str × Value)) (m : Str → Option Value) (x : Str) (v : Value) (hn : (binds.map (·.1)).Nodup) (h : binds.lookup x = some v) (hk : kindOf x = some .local) : bindL kindOf binds m x = some v := by
  induction binds generalizing m with
  | nil => exact nn h
  | cons b r ih =>
    obtain ⟨n, u⟩ := b
    refine lookup_cases h (fun e1 e2 => ?_) fun _ h => ih _ (List.nodup_cons.mp hn).2 h
    subst e1 e2
    refine (bindL_off kindOf r _ x (List.nodup_cons.mp hn).1).trans ?_
    rw [if_pos hk]; exact if_pos rfl
theorem bindC_off (kindOf : Str → Option NameKind) (binds : List (Str × Value)) (m : Str → Option Value) (x : Str) (h : x ∉ binds.map (·.1)) : bindC kindOf binds m x = m x := by
  induction binds generalizing m with
  | nil => rfl
  | cons b r ih =>
    refine (ih _ fun q => h (List.mem_cons_of_mem _ q)).trans ?_
    by_cases q : kindOf b.1 = some .local
    · rw [if_pos q]
    · rw [if_neg q]; exact if_neg fun q => h (List.mem_cons.mpr (.inl q))
theorem bindC_at (kindOf : Str → Option NameKind) (binds : List (Str × Value)) (m : Str → Option Value) (x : Str) (v : Value) (hn : (binds.map (·.1)).Nodup) (h : binds.lookup x = some v) (hk : kindOf x ≠ some .local) : bindC kindOf binds m x = some v := by
  induction binds generalizing m with
  | nil => exact nn h
  | cons b r ih =>
    obtain ⟨n, u⟩ := b
    refine lookup_cases h (fun e1 e2 => ?_) fun _ h => ih _ (List.nodup_cons.mp hn).2 h
    subst e1 e2
    refine (bindC_off kindOf r _ x (List.nodup_cons.mp hn).1).trans ?_
    rw [if_neg hk]; exact if_pos rfl

theorem VRs.zip {w : World} {h : Heap} {X μ : List Addr} {ns : List Str} {us : List Value} {ds : List AV} (r : VRs w h X μ ds us) (x : Str) (d : AV) (e : (ns.zip ds).lookup x = some d) : ∃ v, (ns.zip us).lookup x = some v ∧ VR w h X μ d v := by
  induction ns generalizing us ds with
  | nil => exact nn e
  | cons n ns ih =>
    cases ds with
    | nil => exact nn e
    | cons d' ds =>
      refine r.consI fun u us a r => ?_
      rw [List.zip_cons_cons]
      exact lookup_cases e (fun e1 e2 => ⟨u, e1 ▸ lookup_self _ _ _, e2 ▸ a⟩) fun e1 e => by rw [lookup_ne e1]; exact ih r e

theorem zip_map_fst {α : Type} {ns : List Str} {us : List α} (h : ns.length = us.length) : (ns.zip us).map (·.1) = ns := List.map_fst_zip (Nat.le_of_eq h)

theorem lookup_of_mem {α : Type} {l : List (Str × α)} {x : Str} {c : α} (hn : (l.map (·.1)).Nodup) (h : (x, c) ∈ l) : l.lookup x = some c := by
  induction l with
  | nil => exact (List.not_mem_nil h).elim
  | cons p r ih =>
    obtain ⟨y, d⟩ := p
    refine (List.mem_cons.mp h).elim (fun e => pair_is e fun e1 e2 => e1 ▸ e2 ▸ lookup_self _ _ _) fun h => ?_
    rw [lookup_ne fun (e : x = y) => (List.nodup_cons.mp hn).1 (show y ∈ r.map (·.1) from e ▸ mem_fst h)]
    exact ih (List.nodup_cons.mp hn).2 h

theorem cellsFrom_fst (names : List (Str × NameKind)) (n : Nat) (acc : List (Str × Addr)) (hd : ∀ x ∈ names.map (·.1), x ∉ acc.map (·.1)) (hn : (names.map (·.1)).Nodup) (ha : (acc.map (·.1)).Nodup) : ((cellsFrom n names acc).map (·.1)).Nodup := by
  induction names generalizing n acc with
  | nil => exact ha
  | cons p r ih =>
    obtain ⟨y, k⟩ := p
    obtain ⟨hn1, hn2⟩ := List.nodup_cons.mp hn
    have hd1 := hd y (List.mem_cons_self)
    unfold cellsFrom
    split
    · exact ih (n + 1) ((y, n) :: acc) (fun x hx q => (List.mem_cons.mp q).elim (fun q => hn1 (q ▸ hx)) (hd x (List.mem_cons_of_mem _ hx))) hn2 (List.nodup_cons.mpr ⟨hd1, ha⟩)
    · exact ih n acc (fun x hx => hd x (List.mem_cons_of_mem _ hx)) hn2 ha

section
variable {w : World} {base : Heap} {mg mb : Str → Option Value} {X μ : List Addr} {own own' : Own} {A : Around} {s : Shared} {n : Nat}

theorem none_above {h : Heap} {b : Addr} (hb : h.objs.size ≤ b) : h.get? b = none := Option.eq_none_iff_forall_ne_some.mpr fun _ e => absurd (Heap.lt_size e) (Nat.not_lt.mpr hb)
theorem Core.has {h : Heap} (C : Core w base X μ own h) {b : Addr} (hb : b ∈ X) : ∃ o, h.get? b = some o := (C.baseX b hb).2.2
theorem Core.lt {h : Heap} (C : Core w base X μ own h) {b : Addr} (hb : b ∈ X) : b < h.objs.size := (C.has hb).elim fun _ e => Heap.lt_size e
theorem Core.sys {h : Heap} (C : Core w base X μ own h) {a : Addr} (ha : a ∈ X) : (a == sysModules) = false := beq_eq_false_iff_ne.mpr fun e => absurd (e ▸ (C.baseX a ha).2.1 : 83 ≤ sysModules) (by decide)
theorem Core.noB {h : Heap} (C : Core w base X μ own h) {b : Addr} (e : h.get? b = none) : base.get? b = none := up_no (fun o z => C.stays b o z) e

theorem enter {fn : Fn} {fd : FuncData} {a : Nat} {us : List Value} {ds : List AV} {s₁ : Shared} (ok : FdOk w a fn fd) (gd : GoodFn fn) (C : Core w base X μ own s.heap) (r : VRs w s.heap X μ ds us) (hl : fn.params.length = us.length)
    (x : InCallC s (callEnvC fd s.heap.objs.size a).locals (bindL (callEnvC fd s.heap.objs.size a).kindOf (fn.params.zip us) fun _ => none) (callEnvC fd s.heap.objs.size a).cells
      (bindC (callEnvC fd s.heap.objs.size a).kindOf (fn.params.zip us) fun _ => none) s₁) :
    EnvOk (callEnvC fd s.heap.objs.size a) ∧ SRs w base (callEnvC fd s.heap.objs.size a) ((callEnvC fd s.heap.objs.size a).locals :: (cellsOf (callEnvC fd s.heap.objs.size a) ++ X)) μ (fn.params.zip ds) own s₁.heap := by
  have hput : fn.sc.names.lookup (Str.ofString "put_in") = some .cell → (callEnvC fd s.heap.objs.size a).code = .ref 85 ∧ (callEnvC fd s.heap.objs.size a).qual ++ Str.ofString "put_in" = qPut := fun hp => by
    obtain ⟨q1, q2⟩ := ok.put hp
    refine ⟨q1, ?_⟩
    show (fd.qualname ++ ".<locals>.") ++ Str.ofString "put_in" = qPut
    rw [q2]
    decide +kernel
  have eL : (callEnvC fd s.heap.objs.size a).locals = s.heap.objs.size := rfl
  have eS : (callEnvC fd s.heap.objs.size a).scope = fn.sc := ok.sc
  have eC : (callEnvC fd s.heap.objs.size a).cells = cellsFrom (s.heap.objs.size + 1) fn.sc.names [] := by rw [← ok.sc]; rfl
  have eG : (callEnvC fd s.heap.objs.size a).globals = mainGlobals := ok.globals
  have eB : (callEnvC fd s.heap.objs.size a).builtins = builtinsNs := ok.builtins
  generalize callEnvC fd s.heap.objs.size a = env at *
  have kd : ∀ y, env.kindOf y = fn.sc.names.lookup y := fun y => congrArg (fun sc : Scope => sc.names.lookup y) eS
  have hnd : (env.cells.map (·.1)).Nodup := eC ▸ cellsFrom_fst _ _ _ (fun _ _ => List.not_mem_nil) gd.nn .nil
  have csome : ∀ y, env.kindOf y = some .cell → ∃ c, env.cells.lookup y = some c := fun y e => eC ▸ Option.isSome_iff_exists.mp (cellsFrom_some fn.sc.names (s.heap.objs.size + 1) [] (x := y) (.inl (kd y ▸ e)))
  have keep := x.toInCall.keep
  have big : 83 < s.heap.objs.size := C.lt C.tabX
  have cgt : ∀ y c, env.cells.lookup y = some c → s.heap.objs.size < c := fun y c e => eL ▸ x.above y c (lookup_mem e)
  have cmem : ∀ c ∈ cellsOf env, ∃ y, env.cells.lookup y = some c := fun c hc => (List.mem_map.mp hc).elim fun p hp => ⟨p.1, hp.2 ▸ lookup_of_mem hnd hp.1⟩
  have cgt' : ∀ c ∈ cellsOf env, s.heap.objs.size < c := fun c hc => (cmem c hc).elim fun y e => cgt y c e
  have base_none : ∀ b, s.heap.objs.size ≤ b → base.get? b = none := fun b hb => C.noB (none_above hb)
  have up : ∀ b o, s.heap.get? b = some o → b ∉ X → b ∉ env.locals :: (cellsOf env ++ X) ∧ s₁.heap.get? b = some o := fun b o e hb => ⟨fun q => (List.mem_cons.mp q).elim (fun q => Nat.lt_irrefl _ (eL ▸ q ▸ Heap.lt_size e)) fun q => (List.mem_append.mp q).elim (fun q => Nat.lt_asymm (Heap.lt_size e) (cgt' b q)) hb, keep b o e⟩
  have hm : ∃ ν, μ = μ ++ ν := ⟨[], (List.append_nil _).symm⟩
  have apart := List.nodup_cons.mp C.apart
  have hLμ : env.locals ∉ μ := fun q => Nat.lt_irrefl _ (eL ▸ C.lt (C.subμ _ q))
  have hcμ : ∀ c ∈ cellsOf env, c ∉ μ := fun c hc q => Nat.lt_asymm (cgt' c hc) (C.lt (C.subμ _ q))
  have cin : ∀ y c, env.cells.lookup y = some c → c ∈ cellsOf env := fun y c e => List.mem_map.mpr ⟨(y, c), lookup_mem e, rfl⟩
  have c83 : ∀ y c, env.cells.lookup y = some c → c ≠ 83 := fun y c e q => Nat.lt_asymm (q ▸ cgt y c e) big
  have cL : ∀ y c, env.cells.lookup y = some c → c ≠ env.locals := fun y c e q => Nat.lt_irrefl _ (eL ▸ q ▸ cgt y c e)
  refine ⟨⟨eS ▸ gd.kind, eG, eB, fun y h => h.elim (csome y) fun e => absurd rfl (gd.nf (y, .free) (lookup_mem (kd y ▸ e))), fun hp => hput (kd _ ▸ hp)⟩, ⟨⟨fun b o e => keep b o (C.stays b o e), fun b hb => ?_, List.mem_cons_of_mem _ (List.mem_append_right _ C.tabX), C.tab.mono up (keep 83), C.own.mono up hm fun b _ => keep b, fun b hb => List.mem_cons_of_mem _ (List.mem_append_right _ (C.subμ b hb)), ?_, List.mem_cons_self, ?_, fun y d e k => ?_⟩,
    fun _ y c e => List.mem_cons_of_mem _ (List.mem_append_left _ (cin y c e)), fun y c e => ⟨⟨_, x.cell y c e⟩, hcμ c (cin y c e), c83 y c e, cL y c e⟩, fun y z c e1 e2 => name_of_addr x.apart (lookup_mem e1) (lookup_mem e2), cmem⟩⟩
  · refine (List.mem_cons.mp hb).elim (fun q => ?_) fun q => (List.mem_append.mp q).elim (fun q => ?_) fun q => ?_
    · exact q ▸ ⟨base_none _ (Nat.le_of_eq eL.symm), eL ▸ Nat.le_of_lt big, x.toInCall.ns.imp fun _ r => r.elim fun _ r => r.elim fun _ r => r.1⟩
    · exact (cmem b q).elim fun y e => ⟨base_none _ (Nat.le_of_lt (cgt' b q)), Nat.le_of_lt (Nat.lt_trans big (cgt' b q)), (x.cell y b e).imp fun _ r => r.1⟩
    · exact ⟨(C.baseX b q).1, (C.baseX b q).2.1, (C.has q).imp fun _ => keep _ _⟩
  · exact List.nodup_cons.mpr ⟨fun q => (List.mem_cons.mp q).elim (fun q => Nat.lt_irrefl _ (eL ▸ q ▸ big)) apart.1, List.nodup_cons.mpr ⟨hLμ, apart.2⟩⟩
  · exact ⟨_, x.toInCall.ns, fun y d e k => (r.zip y d e).imp fun v z => ⟨bindL_at _ _ _ y v ((zip_map_fst hl).symm ▸ gd.nd) z.1 k, z.2.mono up hm⟩⟩
  · obtain ⟨v, e1, rv⟩ := r.zip y d e
    have hy : y ∈ fn.params := zip_map_fst hl ▸ mem_fst (lookup_mem e1)
    obtain ⟨c, ec⟩ := csome y ((kd y).trans ((gd.ps y hy).resolve_left fun q => k ((kd y).trans q)))
    have hc := x.cell y c ec
    rw [bindC_at _ _ _ y v ((zip_map_fst hl).symm ▸ gd.nd) e1 k] at hc
    exact ⟨c, v, ec, hc, hcμ c (cin y c ec), c83 y c ec, cL y c ec, rv.mono up hm⟩

theorem room_in (hA : Room A (n + 1)) (env : Env) : Room (A.deeper env) n := ⟨hA.handled, Nat.lt_of_le_of_lt (Nat.le_of_eq (Nat.add_right_comm A.depth 1 n)) hA.depth, Nat.lt_of_le_of_lt (by show A.units + 3 + 8 * n + 80 ≤ A.units + 8 * (n + 1) + 80; omega) hA.units⟩
theorem room_depth (hA : Room A (n + 1)) : A.depth < recursionLimit := Nat.lt_of_le_of_lt (Nat.le_add_right _ _) hA.depth
theorem fn_cells {fn : Fn} {fd : FuncData} {a : Nat} {us : List Value} (ok : FdOk w a fn fd) (gd : GoodFn fn) (hlu : fn.params.length = us.length) {k : Nat} : ∀ y ∈ fn.params.zip us, fd.scope.names.lookup y.1 = some .local ∨ fd.scope.names.lookup y.1 = some .cell ∧ ((cellsFrom k fd.scope.names []).lookup y.1).isSome = true := fun y hy =>
  ok.sc.symm ▸ (gd.ps y.1 (zip_map_fst hlu ▸ mem_fst hy)).imp id fun q => ⟨q, cellsFrom_some _ _ _ (.inl q)⟩

inductive AftK (w : World) (base : Heap) (X μ : List Addr) (s : Shared) (own' : Own) (d : AV) (v : Value) (s' : Shared) : Prop
  | mk (X' μ' : List Addr) (h' : Heap) (tk : Tok) (e : s' = { s with heap := h', toks := tk }) (T : St (83 :: μ) X μ s.heap X' μ' h') (g : ∀ a ∈ X, a ∈ X') (C : Core w base X' μ' own' h') (r : VR w h' X' μ' d v)

theorem call_body {R : Rec} (G : Gd w base mg mb) (hS : SSs w base n R.ss) {a : Nat} {fn : Fn} {us : List Value} {ds : List AV} {d : AV} {vs' : Vars} (hf : fnAt a = some fn) (hl : ds.length = fn.params.length)
    (hb : R.ss fn.sc (fn.params.zip ds) own fn.body = some (.ret d, vs', own')) (hA : Room A (n + 1)) (C : Core w base X μ own s.heap) (r : VRs w s.heap X μ ds us) :
    wpAny (model P0 w) A (call (.ref a) us []) (AftK w base X μ s own' d) noE s := by
  obtain ⟨fd, ok, gd⟩ := fn_ok w hf
  have hlu : fn.params.length = us.length := hl.symm.trans r.length.symm
  obtain ⟨oc, od, osl, hK⟩ := ok.at_
  have hob : s.heap.get? a = some ⟨oc, od, .func fd, osl⟩ := C.stays _ _ (G.kin _ _ hK)
  refine wpAny_call (codeAny_call_cells (fd := fd) (body := fn.body) (vals := us) (binds := fn.params.zip us) (room_depth hA) hob rfl (G.lim.keeps C.stays) (codeRec_of (fun a o e => C.stays _ _ (G.kin a o e)) ok.code) ok.body
    (ok.binds.ok hlu) ok.closure (fn_cells ok gd hlu) (fun s₁ x => ?_) (ok.sc.symm ▸ gd.co) (ok.sc.symm ▸ gd.gen) (ok.sc.symm ▸ gd.kind))
  obtain ⟨ek, S⟩ := enter ok gd C r hlu x
  have eL : (callEnvC fd s.heap.objs.size a).locals = s.heap.objs.size := rfl
  have eS : (callEnvC fd s.heap.objs.size a).scope = fn.sc := ok.sc
  generalize callEnvC fd s.heap.objs.size a = env at *
  obtain ⟨h₁, tk₁, e₁, _⟩ := x.done
  have keep := x.toInCall.keep
  refine wme (hS.ok (env := env) (eS ▸ hb) ek (room_in hA env) S) fun f s' q => ?_
  obtain ⟨X', μ', h', tk, e, T, g, S', v, rfl, rv⟩ := q
  refine ⟨X', μ', h', tk, e.trans (e₁ ▸ rfl), ?_, fun b hb => ?_, S'.sr.core, rv⟩
  · have cgt' : ∀ c ∈ cellsOf env, s.heap.objs.size < c := fun c hc => (List.mem_map.mp hc).elim fun p hp => eL ▸ hp.2 ▸ x.above p.1 p.2 hp.1
    refine ⟨fun b o e hb => T.keep b o (keep b o e) fun q => (List.mem_cons.mp q).elim (fun q => hb (q ▸ List.mem_cons_self)) fun q => (List.mem_cons.mp q).elim (fun q => Nat.lt_irrefl _ (eL ▸ q ▸ Heap.lt_size e)) fun q => (List.mem_append.mp q).elim (fun q => Nat.lt_asymm (Heap.lt_size e) (cgt' b q)) fun q => hb (List.mem_cons_of_mem _ q),
      fun b e => up_no (keep b) (T.live b e), fun b hb => (T.fresh b hb).elim (fun q => (List.mem_cons.mp q).elim (fun q => .inr (none_above (Nat.le_of_eq (q.trans eL).symm))) fun q => (List.mem_append.mp q).elim (fun q => .inr (none_above (Nat.le_of_lt (cgt' b q)))) .inl) fun e => .inr (up_no (keep b) e), T.pre.imp fun ν e => ⟨e.1, fun b hb => up_no (keep b) (e.2 b hb)⟩⟩
  · exact g b (List.mem_cons_of_mem _ (List.mem_append_right _ hb)) fun q => (List.mem_map.mp q).elim fun p hp => Nat.lt_asymm (C.lt hb) (eL ▸ hp.2 ▸ x.above p.1 p.2 hp.1)

theorem call_fn {R : Rec} (G : Gd w base mg mb) (hS : SSs w base n R.ss) {a : Nat} {fn : Fn} {us : List Value} {ds : List AV} {d d' : AV} {vs' : Vars} (hf : fnAt a = some fn) (hl : ds.length = fn.params.length)
    (hb : R.ss fn.sc (fn.params.zip ds) own fn.body = some (.ret d, vs', own')) (hr : resolve own' own.length d = some d') (hc : (own'.take own.length).all (closedOD own.length) = true)
    (hA : Room A (n + 1)) (C : Core w base X μ own s.heap) (r : VRs w s.heap X μ ds us) :
    wpAny (model P0 w) A (call (.ref a) us []) (AftC w base X μ s (own'.take own.length) d') noE s := by
  refine wm (call_body G hS hf hl hb hA C r) fun v s' q => q.casesOn fun X' μ' h' tk e T sub C' rv => ?_
  obtain ⟨ν, rfl, hν⟩ := T.pre
  have hlen : μ.length = own.length := C.own.length
  have Go : Gone w h' X μ X' (μ ++ ν) own' own.length := ⟨sub, fun i hi => (List.getElem?_append_left (hlen ▸ hi)).symm, C'.own, (fun i b hi e hb => by
    rw [List.getElem?_append_right (hlen ▸ hi)] at e
    exact (C.has hb).elim fun _ z => nn ((hν b (List.mem_of_getElem? e)).symm.trans z)), fun b hb => C'.sys (C'.subμ b hb)⟩
  refine ⟨h', tk, e, ⟨T.keep, T.live, fun _ hb => .inl hb, [], (List.append_nil _).symm, fun _ hb => (List.not_mem_nil hb).elim⟩, ⟨C'.stays, fun b hb => C'.baseX b (sub b hb), C.tabX, C'.tab.mono (fun b o e hb => ⟨fun q => hb (sub b q), e⟩) fun o e => e, ?_, C.subμ, C.apart⟩, rv.resolve Go hr⟩
  have := (C'.own.take own.length).closed sub Go.pre hc
  rwa [← hlen, List.take_left, hlen] at this
end

section
variable {w : World} {base : Heap} {mg mb : Str → Option Value} {env : Env} {X μ : List Addr} {vs : Vars} {own own' : Own} {A : Around} {s : Shared} {n : Nat}

theorem Owns.set {h h' : Heap} {as : List Addr} {os : Own} {i : Nat} {a : Addr} {o' : OD} (hk : ∀ b o, h.get? b = some o → b ∉ X → b ∉ X ∧ h'.get? b = some o) (hb : ∀ b ∈ as, b ≠ a → ∀ o, h.get? b = some o → h'.get? b = some o) (hn : as.Nodup)
    (r : Owns w h X μ as os) (hi : as[i]? = some a) (ho : OIs w h' X μ a o') : Owns w h' X μ as (os.set i o') := by
  have hm : ∃ ν, μ = μ ++ ν := ⟨[], (List.append_nil _).symm⟩
  induction r generalizing i with
  | nil => exact nn hi
  | @cons b p as os q r ih =>
    obtain ⟨n1, n2⟩ := List.nodup_cons.mp hn
    cases i with
    | zero =>
      have hi : b = a := Option.some.inj hi
      exact .cons (hi ▸ ho) (r.mono hk hm fun c hc o e => hb c (List.mem_cons_of_mem _ hc) (fun z => n1 ((hi.trans z.symm) ▸ hc)) o e)
    | succ i => exact .cons (q.mono hk hm (hb b List.mem_cons_self fun z => n1 (z ▸ List.mem_of_getElem? hi))) (ih (fun c hc => hb c (List.mem_cons_of_mem _ hc)) n2 hi)

theorem Core.setOwn {h h' : Heap} {i : Nat} {a : Addr} {o' : OD} (C : Core w base X μ own h) (hi : μ[i]? = some a) (hk : ∀ b o, b ≠ a → h.get? b = some o → h'.get? b = some o) (ha : ∃ o, h'.get? a = some o) (ho : OIs w h' X μ a o') :
    Core w base X μ (own.set i o') h' ∧ St (83 :: μ) X μ h X μ h' := by
  have haμ : a ∈ μ := List.mem_of_getElem? hi
  have haX := C.subμ a haμ
  have ap := List.nodup_cons.mp C.apart
  have hk' : ∀ b o, h.get? b = some o → b ∉ X → b ∉ X ∧ h'.get? b = some o := fun b o e hb => ⟨hb, hk b o (fun q => hb (q ▸ haX)) e⟩
  have all : ∀ b, (∃ o, h.get? b = some o) → ∃ o, h'.get? b = some o := fun b q => (Decidable.em (b = a)).elim (fun z => z ▸ ha) fun z => q.imp fun o e => hk b o z e
  exact ⟨⟨fun b o e => hk b o (fun q => nn ((C.baseX a haX).1.symm.trans (q ▸ e))) (C.stays b o e), fun b hb => ⟨(C.baseX b hb).1, (C.baseX b hb).2.1, all b (C.baseX b hb).2.2⟩, C.tabX, C.tab.mono hk' fun o e => hk _ o (fun q => ap.1 (q ▸ haμ)) e, C.own.set hk' (fun b _ q o e => hk b o q e) ap.2 hi ho, C.subμ, C.apart⟩,
    ⟨fun b o e hb => hk b o (fun q => hb (List.mem_cons_of_mem _ (q ▸ haμ))) e, fun b e => Option.eq_none_iff_forall_ne_some.mpr fun o z => (all b ⟨o, z⟩).elim fun _ y => nn (e.symm.trans y), fun b hb => .inl hb, [], (List.append_nil _).symm, fun _ hb => (List.not_mem_nil hb).elim⟩⟩
theorem SR.setOwn {h h' : Heap} {i : Nat} {a : Addr} {o' : OD} (S : SR w base env X μ vs own h) (hi : μ[i]? = some a) (hk : ∀ b o, b ≠ a → h.get? b = some o → h'.get? b = some o) (ha : ∃ o, h'.get? a = some o) (ho : OIs w h' X μ a o') :
    SR w base env X μ vs (own.set i o') h' ∧ St (83 :: μ) X μ h X μ h' := by
  obtain ⟨C, T⟩ := S.core.setOwn hi hk ha ho
  exact ⟨S.back T C, T⟩

theorem upd_ne {h : Heap} {a : Addr} {f : Obj → Obj} : ∀ b o, b ≠ a → h.get? b = some o → (h.update a f).get? b = some o := fun b o q e => (Heap.get?_update_ne _ _ _ _ q).trans e

theorem mapSeq_plain {us us' : Array Value} {k : Nat} {f : Array Value → Array Value} (e : f us = us') : ∃ k', Obj.mapSeq f { cls := .type "list", data := .seq us k } = { cls := .type "list", data := .seq us' k' } := ⟨_, by rw [Obj.mapSeq, e]⟩

theorem SR.setLst {h : Heap} {i : Nat} {a : Addr} {us us' : Array Value} {xs xs' : List AV} {f : Array Value → Array Value} (S : SR w base env X μ vs own h) (hi : μ[i]? = some a) (hl : PLst h a us) (e : f us = us') (hr : VRs w h X μ xs' us'.toList) :
    SR w base env X μ vs (own.set i (.lst xs')) (h.update a (Obj.mapSeq f)) ∧ St (83 :: μ) X μ h X μ (h.update a (Obj.mapSeq f)) := by
  obtain ⟨k, ho⟩ := hl
  obtain ⟨k', e'⟩ := mapSeq_plain (k := k) e
  have hX : a ∈ X := S.subμ a (List.mem_of_getElem? hi)
  have hn : (h.update a (Obj.mapSeq f)).get? a = some { cls := .type "list", data := .seq us' k' } := by rw [← e']; exact Heap.get?_update_self _ ho (by rw [e']; rfl)
  refine S.setOwn hi upd_ne ⟨_, hn⟩ (.lst ⟨k', hn⟩ (hr.mono (fun b o e hb => ⟨hb, upd_ne b o (fun q => hb (q ▸ hX)) e⟩) ⟨[], (List.append_nil _).symm⟩))

theorem VRs.snoc_inv {h : Heap} {ds : List AV} {us : List Value} {d : AV} (r : VRs w h X μ (ds ++ [d]) us) : ∃ us' u, us = us' ++ [u] ∧ VRs w h X μ ds us' ∧ VR w h X μ d u := by
  induction ds generalizing us with
  | nil => exact r.oneI fun u a => ⟨[], u, rfl, .nil, a⟩
  | cons d' ds ih => exact r.consI fun u us a r => (ih r).imp' (u :: ·) fun us' q => q.imp fun v q => ⟨congrArg (u :: ·) q.1, .cons a q.2.1, q.2.2⟩

noncomputable abbrev AftE2 (w : World) (base : Heap) (env : Env) (X μ : List Addr) (vs : Vars) (s : Shared) := AftE w base env X μ vs s

theorem PLst.isL {h : Heap} {a : Addr} {us : Array Value} (x : PLst h a us) : ∃ k, IsL h a us k := x

theorem pop_arr (us' : List Value) (u : Value) : (us' ++ [u]).toArray.eraseIdxIfInBounds ((us' ++ [u]).toArray.size - 1) = us'.toArray := by
  apply Array.ext'
  simp [Array.eraseIdxIfInBounds, List.eraseIdx_append_of_length_le]
theorem st_pop {pos : Pos} {v : Value} {i : Nat} {xs : List AV} {d : AV} (S : SR w base env X μ vs own s.heap) (r : VR w s.heap X μ (.loc i) v) (e : own[i]? = some (.lst (xs ++ [d]))) (hsz : xs.length ≤ 1000000) :
    wpAny (model P0 w) A (callWith pos (.builtin "list.pop") [v] [] []) (AftE w base env X μ vs s (own.set i (.lst xs)) d) noE s := by
  refine own_lst S r e fun a us hX hi hl hs => ?_
  obtain ⟨us', u, e1, r1, ru⟩ := hs.snoc_inv
  have hus : us = (us' ++ [u]).toArray := by rw [← e1]
  subst hus
  have hlen := r1.length
  obtain ⟨k, hk⟩ := hl
  refine P.pop_list (y := u) hk (by simp) ?_ (by rw [sizeLine_is]; simp; omega)
  obtain ⟨S', T⟩ := S.setLst (xs := xs) (f := fun xs => xs.eraseIdxIfInBounds ((us' ++ [u]).toArray.size - 1)) hi ⟨k, hk⟩ (pop_arr us' u) r1
  exact ⟨X, μ, _, s.toks, rfl, T, fun _ e => e, S', T.vr S.sub83 ru⟩

theorem own_lstR {h : Heap} {l : Addr} {i : Nat} {xs : List AV} {P : Prop} (S : SR w base env X μ vs own h) (r : VR w h X μ (.loc i) (.ref l)) (e : own[i]? = some (.lst xs)) (k : ∀ us, μ[i]? = some l → PLst h l us → VRs w h X μ xs us.toList → P) : P :=
  own_lst (M := fun v => v = .ref l → P) S r e (fun a us _ hi hl hs q => k us (Value.ref.inj q ▸ hi) (Value.ref.inj q ▸ hl) hs) rfl
theorem loc_ref {h : Heap} {v : Value} {i : Nat} (r : VR w h X μ (.loc i) v) : ∃ l, v = .ref l := r.locI fun a _ => ⟨a, rfl⟩
theorem st_append {pos : Pos} {t : Sem Value} {l : Addr} {i : Nat} {d : AV} {own₁ : Own} {xs : List AV} (S : SR w base env X μ vs own s.heap) (r : VR w s.heap X μ (.loc i) (.ref l)) (e : own₁[i]? = some (.lst xs)) (hsz : xs.length ≤ 1000000)
    (ht : wpAny (model P0 w) A t (AftE w base env X μ vs s own₁ d) noE s) :
    wpAny (model P0 w) A (callWith pos (.builtin "list.append") [.ref l] [(false, t)] []) (AftE w base env X μ vs s (own₁.set i (.lst (xs ++ [d]))) .none) noE s := by
  refine P.append_list (then_E ht fun u X₁ μ₁ h₁ tk₁ T₁ g₁ S₁ r₁ => own_lstR S₁ (T₁.vr S.sub83 r) e fun us hi hl hs => ?_)
  obtain ⟨k, hk⟩ := hl
  have hlen := hs.size
  refine ⟨us, k, by rw [sizeLine_is]; omega, hk, ?_⟩
  obtain ⟨S', T⟩ := S₁.setLst (xs := xs) (f := fun xs => xs.push u) hi ⟨k, hk⟩ rfl (xs' := xs ++ [d]) (by rw [Array.toList_push]; exact hs.append (.cons r₁ .nil))
  exact AftE.from (tk₁ := tk₁) T₁ g₁ ⟨X₁, μ₁, _, tk₁, rfl, T, fun _ e => e, S', .none⟩

theorem extend_ok {a b : Array Value} (h : a.size + b.size ≤ 1000000) : ¬(!a.isEmpty && Builtin.List.listTooLong (a.size + b.size)) = true := extend_door (by rw [sizeLine_is]; omega)

theorem st_extend {pos : Pos} {t : Sem Value} {l : Addr} {i : Nat} {d : AV} {own₁ : Own} {xs ys : List AV} (S : SR w base env X μ vs own s.heap) (r : VR w s.heap X μ (.loc i) (.ref l)) (e : own₁[i]? = some (.lst xs)) (hd : d = .lst ys ∨ d = .tup ys) (hsz : xs.length + ys.length ≤ 1000000)
    (ht : wpAny (model P0 w) A t (AftE w base env X μ vs s own₁ d) noE s) :
    wpAny (model P0 w) A (callWith pos (.builtin "list.extend") [.ref l] [(false, t)] []) (AftE w base env X μ vs s (own₁.set i (.lst (xs ++ ys))) .none) noE s := by
  refine seqMethod1_meets F.slot_list_extend F.entry_list_extend (then_E ht fun u X₁ μ₁ h₁ tk₁ T₁ g₁ S₁ r₁ => own_lstR S₁ (T₁.vr S.sub83 r) e fun us hi hl hs => ?_)
  obtain ⟨k, hk⟩ := hl
  have fin : ∀ {us2 : Array Value}, VRs w h₁ X₁ μ₁ ys us2.toList → AftE w base env X μ vs s (own₁.set i (.lst (xs ++ ys))) .none .none { s with heap := h₁.update l (Obj.mapSeq fun x => x ++ us2), toks := tk₁ } ∧ us.size + us2.size ≤ 1000000 := by
    intro us2 h2
    obtain ⟨S', T⟩ := S₁.setLst (xs := xs) (f := fun xs => xs ++ us2) hi ⟨k, hk⟩ rfl (xs' := xs ++ ys) (by rw [Array.toList_append]; exact hs.append h2)
    exact ⟨AftE.from (tk₁ := tk₁) T₁ g₁ ⟨X₁, μ₁, _, tk₁, rfl, T, fun _ e => e, S', .none⟩, hs.size ▸ h2.size ▸ hsz⟩
  have big : ∀ {a b : Nat}, a + b ≤ 1000000 → a ≤ sizeLine ∧ a + b ≤ sizeLine + 1 := fun h => by rw [sizeLine_is]; omega
  rcases hd with rfl | rfl
  · refine r₁.lstI fun b us2 h2 _ hs2 => h2.elim fun k2 hk2 => ?_
    obtain ⟨f1, f2⟩ := fin hs2
    exact ⟨⟨_, hk, rfl⟩, F.args_list_extend_2 _ _, _, AutoSeq1.list_extend_list_list_0 l us k b us2 k2 (extend_ok f2) (big f2).1 (big f2).2, hk, hk2, f1⟩
  · refine r₁.tupI fun b us2 h2 _ hs2 => h2.elim fun k2 hk2 => ?_
    obtain ⟨f1, f2⟩ := fin hs2
    exact ⟨⟨_, hk, rfl⟩, F.args_list_extend_2 _ _, _, AutoSeq1.list_extend_list_tuple_0 l us k b us2 k2 (extend_ok f2) (big f2).1 (big f2).2, hk, hk2, f1⟩
end

section
variable {w : World} {base : Heap} {mg mb : Str → Option Value} {env : Env} {X μ : List Addr} {vs : Vars} {own own' : Own} {A : Around} {s : Shared} {n : Nat}

theorem star_none {R : Rec} {sc : Scope} {es : List Expr} {own own' : Own} {ds : List AV} (h : R.es sc vs own es = some (ds, own')) (env : Env) (pos : Pos) : (backTo pos (starEach es env)).any (·.1) = false := by
  induction es generalizing own ds with
  | nil => rfl
  | cons e es ih =>
    refine ite_else h fun hs h => bind_any h fun p _ h => map_any h fun q h3 e => ?_
    rw [not_star (Bool.not_eq_true _ ▸ hs)]
    exact ih (own := p.2) (ds := q.1) (h3.trans (congrArg (fun z => some (q.1, z)) (congrArg Prod.snd e)))

theorem es_one_e {R : Rec} {sc : Scope} {e : Expr} {ds : List AV} {P : Prop} (h : R.es sc vs own [e] = some (ds, own')) (k : ∀ d, ds = [d] → R.e sc vs own e = some (d, own') → isStar e = false → P) : P :=
  ite_else h fun hs h => bind_any h fun p h1 h => map_any h fun q h3 e => k p.1 ((congrArg Prod.fst e).symm.trans (congrArg (p.1 :: ·) (so h3 rfl))) (h1.trans (congrArg (fun z => some (p.1, z)) ((so h3 rfl : p.2 = q.2).trans (congrArg Prod.snd e)))) (Bool.not_eq_true _ ▸ hs)
theorem es_one {R : Rec} {sc : Scope} {es : List Expr} {d : AV} {P : Prop} (h : R.es sc vs own es = some ([d], own')) (k : ∀ e, es = [e] → R.e sc vs own e = some (d, own') → (∀ (env : Env) (pos : Pos), backTo pos (starEach es env) = [(false, eval e env)]) → P) : P := by
  have hl := Rec.es_length h
  cases es with
  | nil => cases hl
  | cons e es =>
    cases es with
    | cons _ _ => cases hl
    | nil => exact es_one_e h fun d' e1 h1 hs => k e rfl ((List.cons.inj e1).1 ▸ h1) fun env pos => by rw [not_star hs]; rfl
theorem es_two {R : Rec} {sc : Scope} {es : List Expr} {d d' : AV} {P : Prop} (h : R.es sc vs own es = some ([d, d'], own')) (k : ∀ e e' own₁, es = [e, e'] → R.e sc vs own e = some (d, own₁) → R.e sc vs own₁ e' = some (d', own') → (∀ (env : Env) (pos : Pos), backTo pos (starEach es env) = [(false, eval e env), (false, eval e' env)]) → P) : P := by
  cases es with
  | nil => exact some_pair h fun e _ => (List.cons_ne_nil _ _ e.symm).elim
  | cons e es =>
    refine ite_else h fun hs h => bind_any h fun p h1 h => map_any h fun q h3 e0 => ?_
    obtain ⟨e1, e2⟩ := List.cons.inj (congrArg Prod.fst e0)
    have e4 : q.2 = own' := congrArg Prod.snd e0
    refine es_one (h3.trans (congrArg some (Prod.ext (x := q) (y := ([d'], own')) e2 e4))) fun e' q1 h5 h6 => k e e' p.2 (congrArg (e :: ·) q1) (h1.trans (congrArg (fun z => some (z, p.2)) e1)) h5 fun env pos => ?_
    rw [not_star (Bool.not_eq_true _ ▸ hs)]
    exact congrArg ((false, eval e env) :: ·) (h6 env pos)

theorem lst_dict {h : Heap} {a : Addr} {us : Array Value} (hl : PLst h a us) : ∀ b, Value.ref a = .ref b → ∃ ob, h.get? b = some ob ∧ ob.dict = none := fun b e => by cases e; obtain ⟨k, e⟩ := hl; exact ⟨_, e, rfl⟩

theorem few_ok {args : List Expr} {pos : Pos} (hl : args.length < 20) (hs : (backTo pos (starEach args env)).any (·.1) = false) :
    ((backTo pos (starEach args env)).all (fun x => !x.1) && (backToKw pos (keywordEach [] env)).all (fun x => x.1.isSome) && decide (args.length + ([] : List Keyword).length + (if ([] : List Keyword).isEmpty then 0 else 1) < 30)) = true := by
  have h1 : (backTo pos (starEach args env)).all (fun x => !x.1) = true := List.all_eq_true.mpr fun x hx => (Bool.not_eq_true' _).mpr (Bool.eq_false_iff.mpr (List.any_eq_false.mp hs x hx))
  rw [h1]
  exact decide_eq_true (Nat.lt_of_lt_of_le hl (by decide : 20 ≤ 30))

theorem attr_base (o : Str) (p : Pos) (name : Str) (whole : Sem Value) : attributeBase (.Name o p) name env whole = whole := rfl

theorem lst_noDict {h : Heap} {a : Addr} {us : Array Value} (hl : PLst h a us) : ∀ b, Value.ref a = .ref b → ∃ ob, h.get? b = some ob ∧ ob.dict = none := lst_dict hl
theorem dct_noDict {h : Heap} {a : Addr} {kvs : List (Str × Value)} (hd : h.DictOf (PySem.strKind P0 w) a kvs) : ∀ b, Value.ref a = .ref b → ∃ ob, h.get? b = some ob ∧ ob.dict = none := hd.mapOf.noDict

theorem recv_lst {h : Heap} {v : Value} {i : Nat} (S : SR w base env X μ vs own h) (r : VR w h X μ (.loc i) v) (hr : recvOk own (.loc i) = true) : ∃ a us, v = .ref a ∧ PLst h a us := by
  obtain ⟨o, q, h1⟩ := opt_any hr
  obtain ⟨xs, h1⟩ := Option.isSome_iff_exists.mp h1
  exact own_lst S r (ol?_is h1 ▸ q) fun a us _ _ hl _ => ⟨a, us, rfl, hl⟩

theorem meth_pop {R : Rec} (hE : SE w base n R.e) (ok : EnvOk env) (hA : Room A n) {o : Str} {p p' p'' : Pos} {f : AV} {i : Nat} {xs : List AV} (hline : (p'.endLine == p''.line) = true) (h1 : R.e env.scope vs own (.Name o p) = some (.loc i, own')) (q : own'[i]? = some (.lst xs))
    {own₂ : Own} (h3 : evPop own' i xs = some (f, own₂)) (S : SR w base env X μ vs own s.heap) :
    wpAny (model P0 w) A (eval (.Call (.Attribute (.Name o p) (Str.ofString "pop") p') [] [] p'') env) (AftE w base env X μ vs s own₂ f) noE s := by
  refine ite_then h3 fun hsz h3 => mp h3 fun d ql => ?_
  have hx : xs = xs.dropLast ++ [d] := (List.getLast?_eq_some_iff.mp ql).elim fun ys e => by rw [e, List.dropLast_concat]
  refine wpAny_Call_method (T := "list") (id := "list.pop") (attr_base ..) rfl hline F.plainAttrs_list F.slot_list_pop F.type_list_pop (then_E (hE.ok h1 ok hA S) fun v X₁ μ₁ k₁ tk₁ T₁ g₁ S₁ r₁ => ?_)
  have hs : xs.dropLast.length ≤ 1000000 := by rw [List.length_dropLast]; omega
  have z := st_pop (A := A) (pos := p'') (s := { s with heap := k₁, toks := tk₁ }) (d := d) (xs := xs.dropLast) S₁ r₁ (hx ▸ q) hs
  obtain ⟨a, us, e, hl⟩ := own_lst (M := fun v => ∃ a us, v = .ref a ∧ PLst k₁ a us) S₁ r₁ q fun a us _ _ hl _ => ⟨a, us, rfl, hl⟩
  subst e
  exact ⟨hl.is.typeIs, lst_dict hl, wm z fun v₃ s₃ z => AftE.from T₁ g₁ z⟩

theorem meth_lst {R : Rec} (hE : SE w base n R.e) (ok : EnvOk env) (hA : Room A n) {o name : Str} {p p' p'' : Pos} {args : List Expr} {d f : AV} {i : Nat} {own₁ own₂ : Own} {xs : List AV} (hline : (p'.endLine == p''.line) = true) (hfew : args.length < 20)
    (h1 : R.e env.scope vs own (.Name o p) = some (.loc i, own₁)) (hrv : recvOk own₁ (.loc i) = true) (h2 : R.es env.scope vs own₁ args = some ([d], own₂)) (q : own₂[i]? = some (.lst xs)) (h3 : evLst own₂ i xs name d = some (f, own')) (S : SR w base env X μ vs own s.heap) :
    wpAny (model P0 w) A (eval (.Call (.Attribute (.Name o p) name p') args [] p'') env) (AftE w base env X μ vs s own' f) noE s := by
  have hf := few_ok (env := env) (pos := p'') hfew (star_none h2 env p'')
  refine es_one h2 fun e _ he hb => ite_any h3 (fun hn h3 => ite_then h3 fun hsz h3 => sp h3 ?_) fun _ h3 => ite_then h3 fun hn h3 => bind_any h3 fun ys hys h3 => ite_then h3 fun hsz h3 => sp h3 ?_
  · rw [eq_of_beq hn]
    refine wpAny_Call_method (T := "list") (id := "list.append") (attr_base ..) hf hline F.plainAttrs_list F.slot_list_append F.type_list_append (then_E (hE.ok h1 ok hA S) fun v X₁ μ₁ k₁ tk₁ T₁ g₁ S₁ r₁ => ?_)
    obtain ⟨a, us, ea, hl⟩ := recv_lst S₁ r₁ hrv
    subst ea
    rw [hb]
    exact ⟨hl.is.typeIs, lst_dict hl, wm (st_append (pos := p'') (s := { s with heap := k₁, toks := tk₁ }) S₁ r₁ q (Nat.le_trans hsz (by decide)) (hE.ok he ok hA S₁)) fun v₃ s₃ z => AftE.from T₁ g₁ z⟩
  · rw [eq_of_beq hn]
    refine wpAny_Call_method (T := "list") (id := "list.extend") (attr_base ..) hf hline F.plainAttrs_list F.slot_list_extend F.type_list_extend (then_E (hE.ok h1 ok hA S) fun v X₁ μ₁ k₁ tk₁ T₁ g₁ S₁ r₁ => ?_)
    obtain ⟨a, us, ea, hl⟩ := recv_lst S₁ r₁ hrv
    subst ea
    rw [hb]
    exact ⟨hl.is.typeIs, lst_dict hl, wm (st_extend (pos := p'') (s := { s with heap := k₁, toks := tk₁ }) S₁ r₁ q (seq?_is hys) (Nat.le_trans hsz (by decide)) (hE.ok he ok hA S₁)) fun v₃ s₃ z => AftE.from T₁ g₁ z⟩

theorem meth_get {R : Rec} (hE : SE w base n R.e) (ok : EnvOk env) (hA : Room A n) {o : Str} {p p' p'' : Pos} {args : List Expr} {ks : List (Str × AV)} {x : Str} {dd : AV} {own₁ own₂ : Own} (hline : (p'.endLine == p''.line) = true) (hfew : args.length < 20)
    (h1 : R.e env.scope vs own (.Name o p) = some (.dct ks, own₁)) (h2 : R.es env.scope vs own₁ args = some ([.str x, dd], own₂)) (S : SR w base env X μ vs own s.heap) :
    wpAny (model P0 w) A (eval (.Call (.Attribute (.Name o p) (Str.ofString "get") p') args [] p'') env) (AftE w base env X μ vs s own₂ ((ks.lookup x).getD dd)) noE s := by
  have hf := few_ok (env := env) (pos := p'') hfew (star_none h2 env p'')
  refine es_two h2 fun e e' own₃ _ he he' hb => wpAny_Call_method (T := "dict") (id := "dict.get") (attr_base ..) hf hline F.plainAttrs_dict F.slot_dict_get F.type_dict_get (then_E (hE.ok h1 ok hA S) fun v X₁ μ₁ k₁ tk₁ T₁ g₁ S₁ r₁ => ?_)
  rw [hb]
  obtain ⟨a, kvs, rfl, hd, _, hsy, hk⟩ := r₁.vw
  refine ⟨hd.typeIs, dct_noDict hd, wpAny_dict_get2 (knd := PySem.strKind P0 w) hsy (then_E (s := { s with heap := k₁, toks := tk₁ }) (hE.ok he ok hA S₁) fun u X₂ μ₂ k₂ tk₂ T₂ g₂ S₂ r₂ => ?_)⟩
  refine then_E (s := { s with heap := k₂, toks := tk₂ }) (hE.ok he' ok hA S₂) fun u' X₃ μ₃ k₃ tk₃ T₃ g₃ S₃ r₃ => ?_
  obtain ⟨a', kvs', ea, hd, _, _, hk⟩ := (T₃.vr S₂.sub83 (T₂.vr S₁.sub83 r₁)).vw
  cases ea
  refine r₂.strI fun t => ⟨x, _, by simp [PySem.strKind, Value.isStrOf], hd.mapOf, AftE.from T₁ g₁ (AftE.from (s := { s with heap := k₁, toks := tk₁ }) T₂ g₂ (AftE.from (s := { s with heap := k₂, toks := tk₂ }) T₃ g₃ (AftE.tok (s := { s with heap := k₃, toks := tk₃ }) _ S₃ ?_)))⟩
  obtain ⟨v1, v2⟩ := valueAt_lookup hk x
  cases q : ks.lookup x with
  | none =>
    rw [q] at v2
    rw [show valueAt kvs' x = none from Option.isSome_eq_false_iff.mp v2 |> Option.isNone_iff_eq_none.mp]
    exact r₃
  | some d =>
    obtain ⟨v, e1, r⟩ := v1 d q
    rw [e1]; exact r

theorem ev_method {R : Rec} (hE : SE w base n R.e) (ok : EnvOk env) (hA : Room A n) {o name : Str} {p p' p'' : Pos} {args : List Expr} {d f : AV} {ds : List AV} {own₁ own₂ : Own} (hline : (p'.endLine == p''.line) = true) (hfew : args.length < 20)
    (h1 : R.e env.scope vs own (.Name o p) = some (d, own₁)) (hrv : recvOk own₁ d = true) (h2 : R.es env.scope vs own₁ args = some (ds, own₂)) (h3 : evMethod own₂ d name ds = some (f, own')) (S : SR w base env X μ vs own s.heap) :
    wpAny (model P0 w) A (eval (.Call (.Attribute (.Name o p) name p') args [] p'') env) (AftE w base env X μ vs s own' f) noE s := by
  cases d with
  | loc i =>
    refine bind_any h3 fun o' q h3 => bind_any h3 fun xs h4 h3 => ?_
    rw [ol?_is h4] at q
    cases q1 : one? ds with
    | some d =>
      rw [q1] at h3
      rw [one?_is q1] at h2
      exact meth_lst hE ok hA hline hfew h1 hrv h2 q h3 S
    | none =>
      rw [q1] at h3
      refine ite_then h3 fun hn h3 => and_is hn fun hn1 hn => ?_
      have hl := Rec.es_length h2
      rw [List.isEmpty_iff.mp hn1] at hl
      have ha := List.length_eq_zero_iff.mp hl.symm
      subst ha
      rw [eq_of_beq hn]
      have e : own₁ = own₂ := congrArg Prod.snd (Option.some.inj h2)
      subst e
      exact meth_pop hE ok hA hline h1 q h3 S
  | dct ks =>
    refine bind_any h3 fun p h4 h3 => bind_any h3 fun x h5 h3 => ite_then h3 fun hn h3 => sp h3 ?_
    rw [two?_is h4, st?_is h5] at h2
    rw [eq_of_beq hn]
    exact meth_get hE ok hA hline hfew h1 h2 S
  | _ => exact nn h3
end

noncomputable def CalOk (w : World) : AV → Prop
  | .val (.builtin _) => True
  | .val (.type _) => True
  | .val (.ref a) => keepIn (KK w) (.ref a) = true
  | .clo _ => True
  | _ => False
structure CalS (w : World) (f : AV → List AV → Own → Option (AV × Own)) : Prop where
  ok : ∀ {g : AV} {ds : List AV} {own : Own} {r : AV × Own}, f g ds own = some r → CalOk w g

theorem keep_fns (w : World) : (fnTab.all fun e => keepIn (KK w) (.ref e.1)) = true := by kernel_rfl

section
variable {w : World} {base : Heap} {mg mb : Str → Option Value} {env : Env} {X μ : List Addr} {vs : Vars} {own own' : Own} {A : Around} {s : Shared} {n : Nat}

noncomputable abbrev HasKeeper (w : World) (v : Value) (h : Heap) : Prop := ∃ k, (k = Keeper.frame ∨ k = Keeper.machine ∨ k = Keeper.boundFrame) ∧ Looks (model P0 w) h (keeperOf v) k
theorem keeper_of {h : Heap} {v : Value} {g : AV} (G : Gd w base mg mb) (st : base.StaysIn h) (r : VR w h X μ g v) (ok : CalOk w g) : HasKeeper w v h := by
  cases g with
  | val u =>
    refine r.valI ?_
    cases u with
    | builtin id => exact ⟨.machine, .inr (.inl rfl), Looks.now⟩
    | type id => exact ⟨.machine, .inr (.inl rfl), Looks.now⟩
    | ref a => exact keeps_K (K := KK w) ok _ fun a o e => st _ _ (G.kin a o e)
    | _ => exact ok.elim
  | clo k => exact r.cloI fun a q => q.casesOn fun c cc o fd u h1 h2 h3 h4 h5 h6 h7 r => keeps_F (M := model P0 w) _ ⟨o.cls, o.dict, fd, o.slots, by rw [h1, ← h3]⟩
  | _ => exact ok.elim

theorem AftE.ofL {R : Rec} (hE : SE w base n R.e) (ok : EnvOk env) (hA : Room A n) {args : List Expr} {ds : List AV} {pos : Pos} {f : Value} {Q : Args → Shared → Prop} (h : R.es env.scope vs own args = some (ds, own')) (S : SR w base env X μ vs own s.heap)
    (k : ∀ us s', AftL w base env X μ vs s own' ds us s' → Q ⟨us, []⟩ s') : wpAny (model P0 w) A (evalArgs f true (backTo pos (starEach args env)) []) Q noE s := by
  cases args with
  | nil => exact evalArgs_nil3 (k _ _ (sp h ⟨X, μ, s.heap, s.toks, rfl, .refl, fun _ e => e, S, .nil⟩))
  | cons e es =>
    have hs := ev_es hE ok hA pos h S
    refine ite_else h fun hst _ => ?_
    rw [not_star (Bool.not_eq_true _ ▸ hst)] at hs ⊢
    exact Calls.evalArgs_plain (wm hs fun us s' q => k us s' q)

theorem ev_call {R : Rec} (G : Gd w base mg mb) (hE : SE w base n R.e) (hC : SC w base n R.call) (hK : CalS w R.call) (ok : EnvOk env) (hA : Room A n) {f : Str} {p pos : Pos} {args : List Expr} {g d : AV} {ds : List AV} {own₁ own₂ : Own}
    (h1 : R.e env.scope vs own (.Name f p) = some (g, own₁)) (h2 : R.es env.scope vs own₁ args = some (ds, own₂)) (h3 : R.call g ds own₂ = some (d, own')) (S : SR w base env X μ vs own s.heap) :
    wpAny (model P0 w) A (eval (.Call (.Name f p) args [] pos) env) (AftE w base env X μ vs s own' d) noE s := by
  have hst := star_none h2 env pos
  refine wpAny_Call_NameR (then_E (hE.ok h1 ok hA S) fun v X₁ μ₁ k₁ tk₁ T₁ g₁ S₁ r₁ => ?_)
  refine callWith_of (P := HasKeeper w v) (by rw [hst]; rfl) (fun h z => z) ?_
  refine AftE.ofL hE ok hA (s := { s with heap := k₁, toks := tk₁ }) h2 S₁ fun us s₂ q => q.casesOn fun X₂ μ₂ k₂ tk₂ e T₂ g₂ S₂ r₂ => ?_
  subst e
  have r₁' := T₂.vr S₁.sub83 r₁
  exact ⟨keeper_of G S₂.stays r₁' (hK.ok h3), wm (hC.ok (s := { s with heap := k₂, toks := tk₂ }) h3 hA S₂.core r₁' r₂) fun v₃ s₃ z => z.casesOn fun h' tk e T C r =>
    AftE.from T₁ g₁ (AftE.from (s := { s with heap := k₁, toks := tk₁ }) T₂ g₂ ⟨X₂, μ₂, h', tk, e, T, fun _ e => e, S₂.back T C, r⟩)⟩

theorem Core.grown {h h' : Heap} (S : Core w base X μ own h) (hk : ∀ a o, h.get? a = some o → h'.get? a = some o) : Core w base X μ own h' :=
  have hk' : ∀ a o, h.get? a = some o → a ∉ X → a ∉ X ∧ h'.get? a = some o := fun a o e n => ⟨n, hk a o e⟩
  ⟨fun a o e => hk _ _ (S.stays a o e), fun a ha => ⟨(S.baseX a ha).1, (S.baseX a ha).2.1, (S.baseX a ha).2.2.imp fun _ => hk _ _⟩, S.tabX, S.tab.mono hk' (hk 83), S.own.mono hk' ⟨[], (List.append_nil _).symm⟩ (fun a _ => hk a), S.subμ, S.apart⟩
theorem Core.new {h : Heap} (S : Core w base X μ own h) {a : Addr} (ha : h.get? a = none) : a ∉ X := fun hx => (S.has hx).elim fun _ e => nn (ha.symm.trans e)
theorem AftC.same {h' : Heap} {tk : Tok} {d : AV} {v : Value} (S : Core w base X μ own s.heap) (hk : ∀ a o, s.heap.get? a = some o → h'.get? a = some o) (r : VR w h' X μ d v) :
    AftC w base X μ s own d v { s with heap := h', toks := tk } := ⟨h', tk, rfl, .grown hk, S.grown hk, r⟩
theorem AftC.tok {d : AV} {v : Value} (t : Tok) (S : Core w base X μ own s.heap) (r : VR w s.heap X μ d v) : AftC w base X μ s own d v { s with toks := t } := AftC.same (h' := s.heap) S (fun _ _ e => e) r

@[elab_as_elim] theorem Core.own_at {h : Heap} {v : Value} {i : Nat} {o : OD} {M : Value → Prop} (S : Core w base X μ own h) (r : VR w h X μ (.loc i) v) (e : own[i]? = some o) (k : ∀ a, a ∈ X → μ[i]? = some a → Ow w h X μ a o → M (.ref a)) : M v := by
  obtain ⟨a, e1, q⟩ := S.own.get e
  exact r.locI fun b e2 => so (e1.symm.trans e2) (k a (S.subμ a (List.mem_of_getElem? e1)) e1 q.ow)
theorem call_len_own {d : Addr} {xs : List (Ty × Addr × Value)} {Q : Value → Shared → Prop} (hd : (d == sysModules) = false) (hm : s.heap.DictOfH (tyKind w) d xs) (hfit : (xs.length : Int) < 2 ^ 63)
    (h : Q (.int xs.length (s.toks + 1)) { s with toks := s.toks + 1 + 1 }) : wpAny (model P0 w) A (call (.builtin "len") [.ref d]) Q noE s := by
  obtain ⟨o, es, ep, ho, hc, hdat, he, his, hn⟩ := id hm
  have meets : MeetsIn P0 w (Builtin.«dict.__len__» ⟨[.ref d], []⟩) (fun _ R s => s.heap.get? d = some o ∧ R (.ok (.ret (.int xs.length s.toks))) { s with toks := s.toks + 1 }) := .of_wp fun A R s ⟨ho, h⟩ => by
    show wpAny _ _ (dictSize d >>= _) _ _ s
    unfold dictSize
    refine wpAny_bind (wpAny_bind (wpAny_dictEntries ho hdat (wpAny_pure ?_)))
    show wpAny _ _ (Builtin.Dict.pendingCount d >>= _) _ _ s
    refine wpAny_bind (wpAny_pendingCount_other hd ?_)
    refine wpAny_ret_mkInt ?_
    have : es.size = xs.length := by
      have := congrArg List.length he
      simp at this
      omega
    rw [Nat.add_zero, this]; exact h
  refine Calls.call_function_entry kind_len plain_len entry_len (args_len1 _) ?_
  unfold Builtin.«len»
  refine wpAny_bind (m := oneArg "len" _) (wpAny_pure ?_)
  refine wpAny_bind (m := callSpecial? (.ref d) (Str.ofString "__len__")) (wpAny_callSpecial?_slot (name := Str.ofString "__len__") hm.typeIs F.slot_dict_len
    (call_meetsIn F.slot_dict_len hm.typeIs F.entry_dict_len (F.args_dict_len_1 _) meets ⟨ho, ?_⟩))
  show wpAny _ _ _ _ _ { s with toks := s.toks + 1 }
  refine wpAny_bind (wpAny_holding (wpAny_pure ?_))
  refine wpAny_bind (wpAny_letGo ?_)
  show wpAny _ _ (if ((xs.length : Nat) : Int) < 0 then _ else _) _ _ _
  rw [if_neg (by omega)]
  show wpAny _ _ (if ((xs.length : Nat) : Int) ≥ 2 ^ 63 then _ else _) _ _ _
  rw [if_neg (by omega)]
  exact wpAny_bind (wpAny_mkInt (wpAny_pure ⟨_, rfl, h⟩))
end

section
variable {w : World} {A : Around} {E : Value → Shared → Prop} {s : Shared} {d : Addr} {o : Obj} {es : Array DictEntry} {ep : Nat}

structure RawDct (h : Heap) (d : Addr) (o : Obj) (es : Array DictEntry) (ep : Nat) : Prop where
  at_ : h.get? d = some o
  exact_ : o.ExactDict
  data : o.data = .dict es ep

theorem RawDct.typeIs {s : Shared} (x : RawDct s.heap d o es ep) : s.TypeIs (.ref d) "dict" := ⟨o, x.at_, x.exact_.1⟩

theorem raw_iter {Q : Value → Shared → Prop} (hd : (d == sysModules) = false) (hm : RawDct s.heap d o es ep)
    (hQ : Q (.ref s.heap.objs.size) { s with heap := s.heap.push { cls := .type "dict_keyiterator", data := .fields #[.ref d, .int 0 0, .int es.size 0, .int ep 0] } }) :
    wpAny (model P0 w) A (pyIter (.ref d)) Q E s := by
  have hT := hm.typeIs
  refine wpAny_pyIter_slot hT F.slot_dict_iter (wpAny_call_entry F.slot_dict_iter hT F.entry_dict_iter ?_ (F.args_dict_iter_1 _))
  unfold Builtin.«dict.__iter__»
  refine wpAny_bind ?_
  unfold Builtin.Dict.dictSlotNone
  refine wpAny_bind (wpAny_notOrdered_dict hT ?_)
  show wpAny _ _ (pure (Value.ref d)) _ _ s
  refine wpAny_pure ?_
  show wpAny _ _ (Builtin.Dict.showsAll d >>= _) _ _ s
  unfold Builtin.Dict.showsAll
  rw [if_neg (by rw [hd]; exact Bool.false_ne_true)]
  refine wpAny_bind (wpAny_pure ?_)
  refine wpAny_bind (wpAny_dictEntries hm.at_ hm.data ?_)
  refine wpAny_bind (wpAny_dictEpoch hm.at_ hm.data ?_)
  refine wpAny_bind (wpAny_newObj_type (wpAny_pure ⟨_, rfl, "dict_keyiterator", _, ⟨_, Heap.get?_push_size _ rfl, rfl⟩, F.slot_dict_keyiterator_next.lookup, ?_⟩))
  simpa [rawInt] using hQ

theorem raw_next {it : Addr} {i : Nat} {e : DictEntry} {Q : Option Value → Shared → Prop} (hit : s.heap.IsKeyIter it d i es.size ep)
    (hm : RawDct s.heap d o es ep) (hx : es[i]? = some e)
    (hQ : ∀ h', h'.IsKeyIter it d (i + 1) es.size ep → Heap.SameBut it s.heap h' → Q (some e.key) { s with heap := h' }) :
    wpAny (model P0 w) A (pyNext (.ref it)) Q E s := by
  obtain ⟨oi, ho, hc, hd⟩ := id hit
  unfold pyNext
  refine wpAny_bind (wpAny_attempt (wpAny_callSpecial?_slot (name := Str.ofString "__next__") hit.typeIs F.slot_dict_keyiterator_next
    (wpAny_call_entry F.slot_dict_keyiterator_next hit.typeIs F.entry_dict_keyiterator_next ?_ (F.args_dict_keyiterator_next_1 _))))
  refine wpAny_bind (wpAny_pure ?_)
  refine wpAny_bind ?_
  refine wpAny_bind ?_
  first | refine wpAny_bind (wpAny_typeNameOfWhole_keyiter hit.typeIs (wpAny_pure ?_)) | refine wpAny_bind (wpAny_typeNameOf_keyiter hit.typeIs (wpAny_pure ?_))
  refine wpAny_bind (wpAny_fieldsOf ho hd ?_)
  have hown : Builtin.Dict_items.ownsTuple "dict_keyiterator" = false := by decide
  rw [hown, if_neg Bool.false_ne_true]
  show wpAny _ _ (if (Value.ref d == Value.none) = true then _ else _) _ _ s
  rw [if_neg (show ¬ ((Value.ref d == Value.none) = true) from Bool.false_ne_true)]
  refine wpAny_bind (wpAny_pure ?_)
  refine wpAny_bind (wpAny_dictEntries hm.at_ hm.data ?_)
  rw [if_neg (by simp)]
  refine wpAny_bind (wpAny_pure ?_)
  refine wpAny_bind (wpAny_dictEpoch hm.at_ hm.data ?_)
  rw [if_neg (by simp)]
  refine wpAny_pure ?_
  dsimp only
  rw [if_neg (Int.not_lt.mpr (Int.natCast_nonneg i)), Int.toNat_natCast, hx]
  dsimp only
  refine wpAny_bind ?_
  first | refine wpAny_bind (wpAny_typeNameOfWhole_keyiter hit.typeIs (wpAny_pure ?_)) | refine wpAny_bind (wpAny_typeNameOf_keyiter hit.typeIs (wpAny_pure ?_))
  refine wpAny_bind (wpAny_isOneOf_keyiter hit.typeIs ?_)
  show wpAny _ _ (setField (.ref it) 1 (rawInt ((i : Int) + 1)) >>= _) _ _ s
  refine wpAny_bind (wpAny_setField ho hd (by simp) ?_)
  have hit' : (s.heap.update it (Obj.mapFields (·.setIfInBounds 1 (rawInt ((i : Int) + 1))))).IsKeyIter it d (i + 1) es.size ep :=
    ⟨_, Heap.get?_update_self _ ho (Obj.isFreed_of_fields (Obj.data_mapFields hd _)), (Obj.cls_mapFields ..).trans hc, by rw [Obj.data_mapFields hd]; simp [rawInt]⟩
  refine wpAny_bind (wpAny_holding ?_)
  refine wpAny_bind (wpAny_isOneOf_keyiter (s := { s with heap := s.heap.update it (Obj.mapFields (·.setIfInBounds 1 (rawInt ((i : Int) + 1)))) }) hit'.typeIs ?_)
  show wpAny _ _ (pure e.key) _ _ _
  exact wpAny_pure (wpAny_pure ⟨_, rfl, wpAny_pure (hQ _ hit' (Heap.SameBut.update ..))⟩)

theorem raw_end {it : Addr} {i : Nat} {Q : Option Value → Shared → Prop} (hh : A.handled = none) (hit : s.heap.IsKeyIter it d i es.size ep)
    (hm : RawDct s.heap d o es ep) (hx : es.size ≤ i)
    (hQ : ∀ h', Heap.ExtBut it s.heap h' → Q none { s with heap := h' }) : wpAny (model P0 w) A (pyNext (.ref it)) Q E s := by
  obtain ⟨oi, ho, hc, hd⟩ := id hit
  unfold pyNext
  refine wpAny_bind (wpAny_attempt (wpAny_callSpecial?_slot (name := Str.ofString "__next__") hit.typeIs F.slot_dict_keyiterator_next
    (wpAny_call_entry F.slot_dict_keyiterator_next hit.typeIs F.entry_dict_keyiterator_next ?_ (F.args_dict_keyiterator_next_1 _))))
  refine wpAny_bind (wpAny_pure ?_)
  refine wpAny_bind ?_
  refine wpAny_bind ?_
  first | refine wpAny_bind (wpAny_typeNameOfWhole_keyiter hit.typeIs (wpAny_pure ?_)) | refine wpAny_bind (wpAny_typeNameOf_keyiter hit.typeIs (wpAny_pure ?_))
  refine wpAny_bind (wpAny_fieldsOf ho hd ?_)
  have hown : Builtin.Dict_items.ownsTuple "dict_keyiterator" = false := by decide
  rw [hown, if_neg Bool.false_ne_true]
  show wpAny _ _ (if (Value.ref d == Value.none) = true then _ else _) _ _ s
  rw [if_neg (show ¬ ((Value.ref d == Value.none) = true) from Bool.false_ne_true)]
  refine wpAny_bind (wpAny_pure ?_)
  refine wpAny_bind (wpAny_dictEntries hm.at_ hm.data ?_)
  rw [if_neg (by simp)]
  refine wpAny_bind (wpAny_pure ?_)
  refine wpAny_bind (wpAny_dictEpoch hm.at_ hm.data ?_)
  rw [if_neg (by simp)]
  refine wpAny_pure ?_
  dsimp only
  rw [if_neg (Int.not_lt.mpr (Int.natCast_nonneg i)), Int.toNat_natCast, Array.getElem?_eq_none hx]
  dsimp only
  refine wpAny_bind ?_
  first | refine wpAny_bind (wpAny_typeNameOfWhole_keyiter hit.typeIs (wpAny_pure ?_)) | refine wpAny_bind (wpAny_typeNameOf_keyiter hit.typeIs (wpAny_pure ?_))
  show wpAny _ _ (setField (.ref it) 0 .none >>= _) _ _ s
  refine wpAny_bind (wpAny_setField ho hd (by simp) ?_)
  show wpAny _ _ (newExc (.type "StopIteration") [] >>= _) _ _ _
  refine wpAny_bind ?_
  unfold newExc newTuple
  refine wpAny_bind (wpAny_newObj_type ?_ (by size_fits))
  refine wpAny_bind (m := firstArgMember _ _) (wpAny_of_eq (a := Value.none) (by first | rfl | (simp only [firstArgMember]; rfl)) ?_)
  refine wpAny_newObj_type ?_ (by size_fits)
  unfold raiseNew
  refine wpAny_bind (wpAny_handled ?_)
  rw [show A.in1.handled = none from hh]
  refine wpAny_bind (wpAny_pure (wpAny_throw ?_))
  refine wpAny_bind (wpAny_isInstance (T := "StopIteration") (b := true) ⟨_, Heap.get?_push_size _ rfl, rfl⟩ isSubtype_stop ?_)
  exact wpAny_pure (hQ _ (((Heap.SameBut.update ..).extBut.push _).push _))

theorem raw_walks (hh : A.handled = none) (I : Addr) (hne : d ≠ I) : Walks P0 w A I [I, d] [I] es.size (fun i v => ∃ e, es[i]? = some e ∧ v = e.key) (fun i h => h.IsKeyIter I d i es.size ep ∧ RawDct h d o es ep) where
  sub := fun b hb => by simp at hb; simp [hb]
  frame := fun _ _ _ st hk => ⟨st.1.at fun o e => hk I (by simp) o e, ⟨hk d (by simp) _ st.2.at_, st.2.exact_, st.2.data⟩⟩
  item := fun i s Q E hi st hQ => by
    obtain ⟨e, hx⟩ : ∃ p, es[i]? = some p := ⟨es[i], by simp [hi]⟩
    refine raw_next st.1 st.2 hx fun h' hit' hs' => ?_
    exact hQ e.key h' s.toks ⟨e, hx, rfl⟩ ⟨hit', ⟨hs'.extBut d _ hne st.2.at_, st.2.exact_, st.2.data⟩⟩ fun b o hb e => hs'.extBut b o (fun h => hb (by simp [h])) e
  done := fun s Q E st hQ => raw_end hh st.1 st.2 (Nat.le_refl _) fun h' he' => hQ h' s.toks fun b o hb e => he' b o (fun h => hb (by simp [h])) e
  self := fun _ _ _ _ st hQ => wpAny_pyIter_keyiter st.1 hQ

theorem raw_src (lo : (d == sysModules) = false) : KdlSrc P0 w "dict" d d es.size (fun i v => ∃ e, es[i]? = some e ∧ v = e.key) (fun h => RawDct h d o es ep) where
  type := fun _ hm => hm.typeIs
  there := fun _ hm => ⟨Heap.lt_size hm.at_, Heap.lt_size hm.at_⟩
  keep := fun _ _ hm hk => ⟨hk d (.inl rfl) _ hm.at_, hm.exact_, hm.data⟩
  notList := by decide
  notTuple := by decide
  hint := fun _ _ _ _ hm hq => kdl_hint_dict hm.typeIs hq
  iter := fun _ _ hh hm => ⟨_, _, (fun _ _ hq => raw_iter lo hm hq), raw_walks hh _ (Nat.ne_of_lt (Heap.lt_size hm.at_)), ⟨⟨_, Heap.get?_push_size _ rfl, rfl, rfl⟩, ⟨Heap.get?_push_of_some _ hm.at_, hm.exact_, hm.data⟩⟩⟩
end

section
variable {w : World} {base : Heap} {mg mb : Str → Option Value} {env : Env} {X μ : List Addr} {vs : Vars} {own own' : Own} {A : Around} {s : Shared} {n : Nat}

theorem VRt.keys {h : Heap} {xs : List (Ty × Addr × Value)} {kvs : List (Ty × AV)} (r : VRt w h X μ xs kvs) : VRs w h X μ (kvs.map fun kv => enc kv.1) (xs.map fun x => Value.ref x.2.1) := by
  induction r with
  | nil => exact .nil
  | cons a b _ ih => exact .cons a ih

theorem call_list_own {d : Addr} {kvs : List (Ty × AV)} {xs : List (Ty × Addr × Value)} (hh : A.handled = none) (C : Core w base X μ own s.heap) (hX : d ∈ X) (hm : s.heap.DictOfH (tyKind w) d xs) (hr : VRt w s.heap X μ xs kvs) (hl : kvs.length ≤ 100000) :
    wpAny (model P0 w) A (call (.type "list") [.ref d]) (AftC w base X μ s own (.lst (kvs.map fun kv => enc kv.1))) noE s := by
  obtain ⟨o, es, ep, ho, hc, hdat, he, his, hn⟩ := id hm
  have hsz : es.size = kvs.length := by
    have := congrArg List.length he
    have := hr.length
    simp at *
    omega
  refine kdl_call (raw_src (o := o) (es := es) (ep := ep) (C.sys hX)) hh ⟨ho, hc, hdat⟩ (by rw [sizeLine_is]; omega) fun h' tk acc' c' hk hD hacc => ?_
  have hnew : s.heap.objs.size ∉ X := C.new (get?_size _)
  refine AftC.same C hk (.lst ⟨c', hD⟩ hnew ?_)
  have hkeys := (hr.keys.mono (X' := X) (fun a o e n => ⟨n, hk a o e⟩) ⟨[], (List.append_nil _).symm⟩)
  have : acc'.toList = xs.map fun x => Value.ref x.2.1 := by
    apply List.ext_getElem?
    intro j
    have hel : ∀ e, es[j]? = some e → (xs.map fun x => Value.ref x.2.1)[j]? = some e.key := by
      intro e hj
      have : (es.toList.map (·.key))[j]? = some e.key := by simp [hj]
      have e2 : es.toList.map (·.key) = xs.map fun x => Value.ref x.2.1 := by
        have := congrArg (List.map (·.key)) he
        rw [this, List.map_map]
        rfl
      rw [← e2]; exact this
    by_cases hj : j < es.size
    · obtain ⟨e, hje⟩ : ∃ p, es[j]? = some p := ⟨es[j], by simp [hj]⟩
      rw [hel e hje]
      have hlt : j < acc'.size := by rw [hacc.1]; exact hj
      obtain ⟨e', h1, h2⟩ := hacc.2 j acc'[j] (by simp [hlt])
      rw [hje] at h1
      cases h1
      simp [hlt, h2]
    · have h1 : acc'.toList[j]? = none := by simp [hacc.1]; omega
      have h2 : xs.length = es.size := by
        have := hr.length; omega
      rw [h1, List.getElem?_eq_none (by simp; omega)]
  rw [this]; exact hkeys

theorem call_sorted_one {d : Addr} {k : Int} {v : Value} (hh : A.handled = none) (C : Core w base X μ own s.heap) (hX : d ∈ X) (hm : s.heap.DictOf (intKind P0 w) d [(k, v)]) :
    wpAny (model P0 w) A (call (.builtin "sorted") [.ref d]) (AftC w base X μ s own (.lst [.int k])) noE s := by
  obtain ⟨o, es, ep, ho, hc, hdat, hks, hp, hn⟩ := id hm
  obtain ⟨e, t, rfl, hk⟩ : ∃ e t, es = #[e] ∧ e.key = .int k t := by
    obtain ⟨l⟩ := es
    cases hp with
    | cons h1 _ h2 =>
      cases h2
      obtain ⟨t, q⟩ := Value.isInt_shape h1
      exact ⟨_, t, rfl, q⟩
  refine Calls.call_function_entry kind_sorted plain_sorted entry_sorted (args_sorted1 _) ?_
  unfold Builtin.«sorted»
  refine wpAny_bind (m := checkCount "sorted" 1 1 _) (wpAny_pure ?_)
  refine wpAny_bind (kdu_collect (A := A.in1) (raw_src (o := o) (es := #[e]) (ep := ep) (C.sys hX)) hh ⟨ho, hc, hdat⟩ (by rw [sizeLine_is]; show 1 ≤ 16777216; omega) fun h' tk acc hk' hacc => ?_)
  have hacc' : acc.toList = [.int k t] := by
    obtain ⟨h1, h2⟩ := hacc
    obtain ⟨u, hu⟩ := List.length_eq_one_iff.mp (show acc.toList.length = 1 from h1)
    obtain ⟨e', q1, q2⟩ := h2 0 u (by rw [← Array.getElem?_toList, hu]; rfl)
    have q3 : e = e' := Option.some.inj q1
    rw [hu, q2, ← q3, hk]
  rw [hacc']
  refine wpAny_bind (wpAny_newList ?_)
  have hI : IntsAre [.int k t] [k] := .cons k t .nil
  have hoL : (h'.push (seqObj "list" [Value.int k t].toArray 0)).get? h'.objs.size = some (seqObj "list" [Value.int k t].toArray 0) := Heap.get?_push_size _ rfl
  refine wpAny_bind (wpAny_holding (wpAny_call_entry slot_list_sort ⟨_, hoL, rfl⟩ entry_list_sort (list_sort_tree (s := { s with heap := h'.push (seqObj "list" [Value.int k t].toArray 0), toks := tk }) hoL hI (by show 1 < 64; omega) fun out ns' a1 a2 a3 => ⟨_, rfl, ?_⟩) (args_list_sort _)))
  refine wpAny_pure ⟨_, rfl, ?_⟩
  have e1 : ns' = [k] := List.perm_singleton.mp a2
  subst e1
  obtain ⟨c', hat⟩ := sortedHeap_at (out := out) hoL
  have kept : ∀ b o, s.heap.get? b = some o → (sortedHeap (h'.push (seqObj "list" [Value.int k t].toArray 0)) h'.objs.size [Value.int k t] out).get? b = some o := fun b o e => by
    have e2 := hk' b o e
    have hlt := Heap.lt_size e2
    rw [sortedHeap_old (Nat.ne_of_lt hlt) (by rw [size_push']; exact Nat.lt_succ_of_lt hlt)]
    exact Heap.get?_push_of_some _ e2
  have hnew : h'.objs.size ∉ X := fun hx => by
    obtain ⟨_, _, o, e⟩ := C.baseX _ hx
    exact absurd (Heap.lt_size (hk' _ _ e)) (Nat.lt_irrefl _)
  refine AftC.same C kept (.lst ⟨c', hat⟩ hnew ?_)
  cases out with
  | mk l =>
    cases a1 with
    | cons n t' r =>
      cases r
      exact .cons (.int _ _) .nil

theorem str_ok (i : Int) (h : 0 ≤ i) (h2 : i < 1000) : i.natAbs.log2 < 1920 := by
  have h3 : i.natAbs < 2 ^ 10 := by omega
  have := Nat.log2_lt (n := i.natAbs) (k := 10)
  by_cases z : i.natAbs = 0
  · rw [z]; decide
  · have := (Nat.log2_lt z (k := 10)).mpr h3
    omega

theorem fit_of {a b : Nat} (e : a = b) (h : b ≤ 100000) : (a : Int) < 2 ^ 63 := by omega
theorem len_lst {a : Addr} {us : Array Value} {xs : List AV} (C : Core w base X μ own s.heap) (hl : PLst s.heap a us) (hs : VRs w s.heap X μ xs us.toList) (hsz : xs.length ≤ 100000) : wpAny (model P0 w) A (call (.builtin "len") [.ref a]) (AftC w base X μ s own (.int xs.length)) noE s :=
  Calls.call_len_list hl.is (fit_of hs.size hsz) (hs.size ▸ AftC.tok _ C (.int _ _))
theorem fun_len {u : Value} {d e : AV} (C : Core w base X μ own s.heap) (ru : VR w s.heap X μ d u) (h : evLen own d = some (e, own')) : wpAny (model P0 w) A (call (.builtin "len") [u]) (AftC w base X μ s own' e) noE s := by
  cases d with
  | loc i =>
    refine bind_any h fun o q h => C.own_at ru q fun a hX _ q => ?_
    cases o with
    | lst xs => exact ite_then h fun hl h => sp h (Exists.elim q fun us q => len_lst C q.1 q.2 hl)
    | dct kvs => exact ite_then h fun hl h => sp h (Exists.elim q fun xs q => call_len_own (C.sys hX) q.1 (fit_of q.2.length hl) (q.2.length ▸ AftC.tok _ C (.int _ _)))
    | _ => exact nn h
  | lst xs => exact ite_then h fun hl h => sp h (ru.lstI fun a us q _ r => len_lst C q r hl)
  | tup xs => exact ite_then h fun hl h => sp h (ru.tupI fun a us q _ r => len_tuple q.isT (fit_of r.size hl) (r.size ▸ AftC.tok _ C (.int _ _)))
  | _ => exact nn h
theorem fun_list {u : Value} {d e : AV} (hh : A.handled = none) (C : Core w base X μ own s.heap) (ru : VR w s.heap X μ d u) (h : evList own d = some (e, own')) : wpAny (model P0 w) A (call (.type "list") [u]) (AftC w base X μ s own' e) noE s := by
  cases d with
  | loc i =>
    refine bind_any h fun o q h => bind_any h fun kvs h1 h => ite_then h fun hl h => sp h ?_
    rw [od?_is h1] at q
    exact C.own_at ru q fun a hX _ q => Exists.elim q fun xs q => call_list_own hh C hX q.1 q.2 hl
  | tup xs =>
    refine ite_then h fun hl h => sp h (ru.tupI fun a us q _ r => q.elim fun k ho => call_list_seq (T := "tuple") _ (.inr rfl) ho rfl rfl (fun h' c' hk hn => ?_) (Nat.le_trans (small_size r.size hl) (Nat.le_refl _)))
    exact AftC.same (tk := s.toks) C hk (.lst ⟨c', hn⟩ (C.new (get?_size _)) (r.mono (fun a o e n => ⟨n, hk a o e⟩) ⟨[], (List.append_nil _).symm⟩))
  | _ => exact nn h
theorem fun_tuple {u : Value} {xs : List AV} (C : Core w base X μ own s.heap) (ru : VR w s.heap X μ (.lst xs) u) (hl : xs.length ≤ 1000) : wpAny (model P0 w) A (call (.type "tuple") [u]) (AftC w base X μ s own (.tup xs)) noE s := by
  refine ru.lstI fun a ws q _ r => call_tuple_list q.is (fun h' hk => ?_) (small_size r.size hl)
  have hk' : ∀ a o, s.heap.get? a = some o → (h'.push { cls := .type "tuple", data := .seq ws }).get? a = some o := fun a o e => Heap.get?_push_of_some (a := a) _ (hk a o e)
  exact AftC.same (tk := s.toks) C hk' (.tup ⟨0, Heap.get?_push_size _ rfl⟩ ((C.grown hk).new (get?_size _)) (r.mono (fun a o e n => ⟨n, hk' a o e⟩) ⟨[], (List.append_nil _).symm⟩))

theorem fun_ok {f : String} {us : List Value} {ds : List AV} {d : AV} (hh : A.handled = none) (C : Core w base X μ own s.heap) (r : VRs w s.heap X μ ds us) (h : evFun own f ds = some (d, own')) :
    wpAny (model P0 w) A (call (.builtin f) us []) (AftC w base X μ s own' d) noE s := by
  refine ite_any h (fun hf h => ?_) fun _ h => ite_any h (fun hf h => ?_) fun _ h => ite_then h fun hf h => ?_
  · refine bind_any h fun d₀ h1 h => ?_
    rw [one?_is h1] at r
    rw [hf]
    exact r.oneI fun u ru => fun_len C ru h
  · refine bind_any h fun p h1 h => mp h fun q h2 => ?_
    rw [two?_is h1, (in2?_is h2).1, (in2?_is h2).2] at r
    rw [hf]
    refine r.twoI fun u v r1 r2 => r1.intI fun t => r2.intI fun t' => max_two_ints hh fun h' tk hk => AftC.same C hk ?_
    by_cases z : q.2 > q.1
    · rw [if_pos z, if_pos z]; exact .int _ _
    · rw [if_neg z, if_neg z]; exact .int _ _
  · refine bind_any h fun d₀ h1 h => bind_any h fun i h2 h => bind_any h fun o h3 h => mp h fun k h4 => ?_
    rw [one?_is h1, lo?_is h2] at r
    rw [on?_is h4] at h3
    rw [hf]
    exact r.oneI fun u ru => C.own_at ru h3 fun a hX _ q => Exists.elim q fun v hd => call_sorted_one hh C hX hd
theorem type_ok {f : String} {us : List Value} {ds : List AV} {d : AV} (hh : A.handled = none) (C : Core w base X μ own s.heap) (r : VRs w s.heap X μ ds us) (h : evType own f ds = some (d, own')) :
    wpAny (model P0 w) A (call (.type f) us []) (AftC w base X μ s own' d) noE s := by
  refine bind_any h fun d₀ h1 h => ?_
  rw [one?_is h1] at r
  refine r.oneI fun u ru => ite_any h (fun hf h => ?_) fun _ h => ite_any h (fun hf h => ?_) fun _ h => ite_any h (fun hf h => ?_) fun _ h => ite_then h fun hf h => ?_ <;> rw [hf]
  · refine mp h fun i h2 => (num?_is h2).elim (fun q => ?_) fun q => ?_
    · obtain ⟨b, e1, e2⟩ := q
      rw [e1] at ru
      rw [e2]
      exact ru.boolI (call_int_bool (AftC.tok _ C (.int _ _)))
    · rw [q] at ru
      exact ru.intI fun t => call_int_int (AftC.tok s.toks C (.int _ _))
  · refine bind_any h fun i h2 h => ite_then h fun hi h => sp h (and_is hi fun h3 h4 => ?_)
    rw [in?_is h2] at ru
    exact ru.intI fun t => P.str_of_int (str_ok i (of_decide_eq_true h3) (of_decide_eq_true h4)) (AftC.tok _ C (.str _ _))
  · exact fun_list hh C ru h
  · refine bind_any h fun xs h2 h => ite_then h fun hl h => sp h ?_
    rw [li?_is h2] at ru
    exact fun_tuple C ru hl
theorem builtin_ok {f : Value} {us : List Value} {ds : List AV} {d : AV} (hh : A.handled = none) (C : Core w base X μ own s.heap) (r : VRs w s.heap X μ ds us) (h : evBuiltin own f ds = some (d, own')) :
    wpAny (model P0 w) A (call f us []) (AftC w base X μ s own' d) noE s := by
  cases f with
  | builtin f => exact fun_ok hh C r h
  | type f => exact type_ok hh C r h
  | _ => exact nn h
end

section
variable {w : World} {base : Heap} {mg mb : Str → Option Value} {env : Env} {X μ : List Addr} {vs : Vars} {own own' : Own} {A : Around} {s : Shared} {n : Nat}

theorem VRs.reverse {h : Heap} {us : List Value} {ds : List AV} (r : VRs w h X μ ds us) : VRs w h X μ ds.reverse us.reverse := by
  induction ds generalizing us with
  | nil => exact r.nilI .nil
  | cons d ds ih => exact r.consI fun u us a r => by rw [List.reverse_cons, List.reverse_cons]; exact (ih r).append (.cons a .nil)

theorem ev_rev {R : Rec} (hE : SE w base n R.e) (ok : EnvOk env) (hA : Room A n) {v : Expr} {k : Nat} {p1 p2 p3 pos : Pos} {xs : List AV} (h1 : R.e env.scope vs own v = some (.lst xs, own')) (hsz : xs.length ≤ 100000) (S : SR w base env X μ vs own s.heap) :
    wpAny (model P0 w) A (eval (.Subscript v (.Slice none none (some (.UnaryOp .USub (.Constant (.int 1) k p1) p2)) p3) pos) env) (AftE w base env X μ vs s own' (.lst xs.reverse)) noE s := by
  refine Subscript_ (then_E (hE.ok h1 ok hA S) fun u X₁ μ₁ k₁ tk₁ T₁ g₁ S₁ r₁ => wpAny_Slice (wpAny_pure (wpAny_pure ?_)))
  show wpAny _ _ (eval _ env) _ _ _
  refine wpAny_UnaryOp (wpAny_Constant_int (neg_int (r₁.lstI fun a us hl hX hs => ?_)))
  refine tail_any (hl.is.push _).typeIs slot_list_getitem.lookup (wpAny_getItem_list_slice (hl.is.push _) (Heap.IsSliceOf.new ..) .none .none (.int _ _) (by decide) ?_ (by rw [sizeLine_is, hs.size]; omega)) rfl
  rw [krv_pick]
  exact AftE.from (tk₁ := tk₁) T₁ g₁ (AftE.same (s := { s with heap := k₁, toks := tk₁ }) S₁ (fun b o e => Heap.get?_push_of_some _ (Heap.get?_push_of_some _ e)) (vr_lst (S₁.push _) (vr_up _ hs.reverse)))
end

theorem dz_getattr_none : typeLookup (.type "zip") "__getattr__" = pure none := by rw [typeLookup_type, builtinLookup_eq_fast]; kernel_rfl
theorem dz_keys_none : typeLookup (.type "zip") (Str.ofString "keys") = pure none := am_miss_of_fast (by kernel_rfl)
theorem dz_entry_getattribute : entryFor table "zip.__getattribute__" = some Builtin.«object.__getattribute__» :=
  entryFor_alias (id' := "object.__getattribute__") (by kernel_rfl) (by decide +kernel) (by decide +kernel) (by kernel_rfl)

theorem dz_meets (a : Addr) (vs : Array Value) (u : Tok) :
    Meets (Builtin.«object.__getattribute__» ⟨[.ref a, .str (Str.ofString "keys") u], []⟩) (fun A R s => s.heap.get? a = some { cls := .type "zip", dict := none, data := .fields vs, slots := #[] } ∧ raisesAttr (.ref a) (Str.ofString "keys") A R s) :=
  Meets.of_wp fun prog w A R s hs => by
    have hmiss := dz_keys_none
    have hname : (["__module__", "__name__", "__qualname__", "__doc__", "__annotations__"] : List Str).contains (Str.ofString "keys") = false := by decide +kernel
    generalize hk : Str.ofString "keys" = name at hmiss hname hs ⊢
    have hsz : name.length + 100 ≤ sizeLine := by rw [← hk, sizeLine_is]; decide +kernel
    obtain ⟨hp, g, d, tk, os⟩ := s
    obtain ⟨hx, hs⟩ := hs
    have hT : (⟨hp, g, d, tk, os⟩ : Shared).TypeIs (.ref a) "zip" := ⟨_, hx, rfl⟩
    unfold Builtin.«object.__getattribute__»
    repeat (any_goals (first | assumption | wp_step))
    rw [hname, if_neg Bool.false_ne_true]
    repeat (any_goals (first | assumption | wp_step))
    exact wpAny_raiseAttrError hs.1 hs.2 (attrMsg_fits (by decide +kernel) hsz)

theorem dz_keys {w : World} {A : Around} {E : Value → Shared → Prop} {s : Shared} {a : Addr} {vs : Array Value} {Q : Option Value → Shared → Prop}
    (hx : s.heap.get? a = some { cls := .type "zip", dict := none, data := .fields vs, slots := #[] }) (hA : A.handled = none)
    (h : ∀ h' tk, (∀ b o, s.heap.get? b = some o → h'.get? b = some o) → Q none { s with heap := h', toks := tk }) : wpAny (model P0 w) A (getAttr? (.ref a) (Str.ofString "keys")) Q E s := by
  obtain ⟨hp, g, d, tk, os⟩ := s
  have hT : ∀ tk', (⟨hp, g, d, tk', os⟩ : Shared).TypeIs (.ref a) "zip" := fun _ => ⟨_, hx, rfl⟩
  have f1 := sub_AttributeError
  have f3 := F.slot_zip_getattribute.lookup
  have f4 := F.slot_zip_getattribute.bind (.ref a)
  have f5 := dz_getattr_none
  unfold getAttr? getAttrBy? getAttrBy
  repeat (any_goals (first | assumption | exact hT _ | ((with_reducible show wpAny _ _ (call (Value.builtin "zip.__getattribute__") _ _) _ _ _); refine call_meets F.slot_zip_getattribute (hT _) dz_entry_getattribute (F.args_zip_getattribute_2 _ _) (dz_meets a vs _) ⟨hx, hA, fun h' tk' e hx' => ?_⟩) | wp_step))
  obtain ⟨t', u', he⟩ := hx'.there
  show wpAny _ _ (getattributeRaised _ _ _ _ _ _ _) _ _ _
  unfold getattributeRaised
  repeat (any_goals (first | assumption | wp_step))
  all_goals first
    | exact h _ _ hx'.keeps
    | trace_state

section
variable {w : World} {A : Around} {E : Value → Shared → Prop} {s : Shared}

theorem next_tup_item {it l : Addr} {i : Nat} {items} {x : Value} {Q : Value → Shared → Prop} (hit : s.heap.IsTupleIter it l i)
    (hl : s.heap.IsTuple l items) (hx : items[i]? = some x)
    (hQ : ∀ h', h'.IsTupleIter it l (i + 1) → Heap.SameBut it s.heap h' → Q x { s with heap := h' }) :
    wpAny (model P0 w) A (Builtin.SmallTypes.nextOf (.ref it)) Q E s := by
  obtain ⟨o, ho, hc, hd⟩ := id hit
  obtain ⟨ol, hol, _, nl, hdl⟩ := hl
  unfold Builtin.SmallTypes.nextOf
  refine wpAny_bind (wpAny_callSpecial?_slot (name := Str.ofString "__next__") hit.typeIs F.slot_tuple_iterator_next
    (wpAny_call_entry F.slot_tuple_iterator_next hit.typeIs F.entry_tuple_iterator_next ?_ (F.args_tuple_iterator_next_1 _)))
  show wpAny _ _ (field (.ref it) 0 >>= _) _ _ s
  refine wpAny_bind (wpAny_field ho hd (x := .ref l) rfl ?_)
  show wpAny _ _ (if (Value.ref l == Value.none) = true then _ else _) _ _ s
  rw [if_neg (show ¬ ((Value.ref l == Value.none) = true) from Bool.false_ne_true)]
  show wpAny _ _ (field (.ref it) 1 >>= _) _ _ s
  refine wpAny_bind (wpAny_field ho hd (x := .int i 0) rfl ?_)
  show wpAny _ _ (seqItems? (.ref l) >>= _) _ _ s
  refine wpAny_bind (wpAny_seqItems hol hdl ?_)
  rw [Int.toNat_natCast]
  dsimp only
  rw [hx]
  dsimp only
  refine wpAny_bind (wpAny_setField ho hd (by simp) (wpAny_pure ⟨x, rfl, wpAny_pure (hQ _ ?_ (Heap.SameBut.update ..))⟩))
  exact ⟨_, Heap.get?_update_self _ ho (Obj.isFreed_of_fields (Obj.data_mapFields hd _)), (Obj.cls_mapFields ..).trans hc, by
    rw [Obj.data_mapFields hd]; simp [rawInt]⟩

theorem next_tup_end {it l : Addr} {i : Nat} {items} {Q : Value → Shared → Prop} (hh : A.handled = none)
    (hit : s.heap.IsTupleIter it l i) (hl : s.heap.IsTuple l items) (hx : items[i]? = none)
    (hE : ∀ h' e, Heap.ExtBut it s.heap h' → (∃ o, h'.get? e = some o ∧ o.cls = .type "StopIteration") → E (.ref e) { s with heap := h' }) :
    wpAny (model P0 w) A (Builtin.SmallTypes.nextOf (.ref it)) Q E s := by
  obtain ⟨o, ho, hc, hd⟩ := id hit
  obtain ⟨ol, hol, _, nl, hdl⟩ := hl
  unfold Builtin.SmallTypes.nextOf
  refine wpAny_bind (wpAny_callSpecial?_slot (name := Str.ofString "__next__") hit.typeIs F.slot_tuple_iterator_next
    (wpAny_call_entry F.slot_tuple_iterator_next hit.typeIs F.entry_tuple_iterator_next ?_ (F.args_tuple_iterator_next_1 _)))
  show wpAny _ _ (field (.ref it) 0 >>= _) _ _ s
  refine wpAny_bind (wpAny_field ho hd (x := .ref l) rfl ?_)
  show wpAny _ _ (if (Value.ref l == Value.none) = true then _ else _) _ _ s
  rw [if_neg (show ¬ ((Value.ref l == Value.none) = true) from Bool.false_ne_true)]
  show wpAny _ _ (field (.ref it) 1 >>= _) _ _ s
  refine wpAny_bind (wpAny_field ho hd (x := .int i 0) rfl ?_)
  show wpAny _ _ (seqItems? (.ref l) >>= _) _ _ s
  refine wpAny_bind (wpAny_seqItems hol hdl ?_)
  rw [Int.toNat_natCast]
  dsimp only
  rw [hx]
  dsimp only
  refine wpAny_bind (wpAny_rule (wpAny_bind (wpAny_setField ho hd (by simp) ?_)))
  show wpAny _ _ (newExc (.type "StopIteration") [] >>= _) _ _ _
  refine wpAny_bind ?_
  unfold newExc newTuple
  refine wpAny_bind (wpAny_newObj_type ?_ (by size_fits))
  refine wpAny_bind (m := firstArgMember _ _) (wpAny_of_eq (a := Value.none) (by first | rfl | (simp only [firstArgMember]; rfl)) ?_)
  refine wpAny_newObj_type ?_ (by size_fits)
  unfold raiseNew
  refine wpAny_bind (wpAny_handled ?_)
  first | rw [show A.in1.handled = none from hh] | rw [hh]
  refine wpAny_bind (wpAny_pure (wpAny_throw ?_))
  exact hE _ _ (((Heap.SameBut.update ..).extBut.push _).push _) ⟨_, Heap.get?_push_size _ rfl, rfl⟩

noncomputable abbrev IsZipF (h : Heap) (z TI TO : Addr) (f0 f1 : Value) : Prop :=
  h.get? z = some { cls := .type "zip", dict := none, data := .fields #[f0, f1, .bool false, .ref TI, .ref TO], slots := #[] }

theorem dz_item {z TI TO i1 i2 l1 l2 : Addr} {k1 k2 : Nat} {xs ys : Array Value} {x y a b : Value} {Q : Value → Shared → Prop} (D : ZipApart z TI TO i1 i2 l1 l2)
    (hz : IsZip s.heap z TI TO .none) (hTI : IsPair s.heap TI (.ref i1) (.ref i2)) (hTO : IsPair s.heap TO a b)
    (h1 : s.heap.IsTupleIter i1 l1 k1) (h2 : s.heap.IsTupleIter i2 l2 k2) (hl1 : s.heap.IsTuple l1 xs) (hl2 : s.heap.IsTuple l2 ys) (hx : xs[k1]? = some x) (hy : ys[k2]? = some y)
    (hQ : ∀ h', IsZip h' z TI TO (rawInt s.heap.objs.size) → IsPair h' TO x y → h'.IsTupleIter i1 l1 (k1 + 1) → h'.IsTupleIter i2 l2 (k2 + 1) → IsPair h' s.heap.objs.size x y → h'.objs.size = s.heap.objs.size + 1 →
      (∀ c o, c ≠ z → c ≠ TO → c ≠ i1 → c ≠ i2 → s.heap.get? c = some o → h'.get? c = some o) → Q (.ref s.heap.objs.size) { s with heap := h' }) :
    wpAny (model P0 w) A (Builtin.«zip.__next__» ⟨[.ref z], []⟩) (fun fin s' => ∃ v, fin = .done (.ret v) ∧ Q v s') E s := by
  show wpAny _ _ (field (.ref z) 2 >>= _) _ _ _
  refine wpAny_bind (wpAny_field hz rfl (x := .bool false) rfl ?_)
  show wpAny _ _ (field (.ref z) 3 >>= _) _ _ _
  refine wpAny_bind (wpAny_field hz rfl (x := .ref TI) rfl ?_)
  refine wpAny_bind (wpAny_seqItems hTI rfl ?_)
  show wpAny _ _ (Builtin.SmallTypes.ownedTupleIsFree (.ref z) >>= _) _ _ _
  refine wpAny_bind ?_
  unfold Builtin.SmallTypes.ownedTupleIsFree
  refine wpAny_bind (wpAny_field hz rfl (x := .none) rfl (wpAny_pure ?_))
  rw [if_pos rfl]
  refine wpAny_bind (wpAny_rule ?_)
  refine wpAny_bind (wpAny_field hz rfl (x := .ref TO) rfl ?_)
  refine wpAny_bind (wpAny_setField_rec hz (by simp) fun h₁ hz₁ hs₁ => ?_)
  replace hz₁ : IsZip h₁ z TI TO .ellipsis := hz₁
  refine wpAny_bind ?_
  simp only [List.zipIdx_cons, List.zipIdx_nil, List.forIn_cons, List.forIn_nil]
  refine wpAny_bind (wpAny_bind (wpAny_onRaise ?_))
  show wpAny _ _ (Builtin.SmallTypes.nextOf (.ref i1) >>= _) _ _ _
  have hl1₁ : h₁.IsTuple l1 xs := hl1.at fun o e => hs₁.extBut _ _ D.l1z e
  refine wpAny_bind (next_tup_item (h1.extBut hs₁.extBut D.i1z) hl1₁ hx fun h₂ h1₂ hs₂ => wpAny_pure ?_)
  have hTO₂ : IsPair h₂ TO a b := hs₂.extBut _ _ D.TOi1 (hs₁.extBut _ _ D.TOz hTO)
  refine wpAny_bind (wpAny_seqItems hTO₂ rfl ?_)
  refine wpAny_bind (wpAny_updateSeq_pair hTO₂ fun h₃ hTO₃ hs₃ => ?_)
  replace hTO₃ : IsPair h₃ TO x b := hTO₃
  refine wpAny_bind (wpAny_letGo (wpAny_pure ?_))
  refine wpAny_bind (wpAny_bind (wpAny_onRaise ?_))
  show wpAny _ _ (Builtin.SmallTypes.nextOf (.ref i2) >>= _) _ _ _
  have hl2₃ : h₃.IsTuple l2 ys := hl2.at fun o e => hs₃.extBut _ _ D.l2TO (hs₂.extBut _ _ D.l2i1 (hs₁.extBut _ _ D.l2z e))
  refine wpAny_bind (next_tup_item (((h2.extBut hs₁.extBut D.i2z).extBut hs₂.extBut D.i12.symm).extBut hs₃.extBut D.TOi2.symm) hl2₃ hy fun h₄ h2₄ hs₄ => wpAny_pure ?_)
  have hTO₄ : IsPair h₄ TO x b := hs₄.extBut _ _ D.TOi2 hTO₃
  refine wpAny_bind (wpAny_seqItems hTO₄ rfl ?_)
  refine wpAny_bind (wpAny_updateSeq_pair hTO₄ fun h₅ hTO₅ hs₅ => ?_)
  replace hTO₅ : IsPair h₅ TO x y := hTO₅
  refine wpAny_bind (wpAny_letGo (wpAny_pure (wpAny_pure ?_)))
  refine wpAny_bind (wpAny_seqItems hTO₅ rfl ?_)
  refine wpAny_bind (wpAny_newTuple ?_)
  have hsz : h₅.objs.size = s.heap.objs.size := by rw [hs₅.1, hs₄.1, hs₃.1, hs₂.1, hs₁.1]
  have hz₅ : IsZip h₅ z TI TO .ellipsis := hs₅.extBut _ _ D.TOz.symm (hs₄.extBut _ _ D.i2z.symm (hs₃.extBut _ _ D.TOz.symm (hs₂.extBut _ _ D.i1z.symm hz₁)))
  have hk₅ : ∀ c o, c ≠ z → c ≠ TO → c ≠ i1 → c ≠ i2 → s.heap.get? c = some o → h₅.get? c = some o := fun c o c1 c2 c3 c4 e =>
    hs₅.extBut _ _ c2 (hs₄.extBut _ _ c4 (hs₃.extBut _ _ c2 (hs₂.extBut _ _ c3 (hs₁.extBut _ _ c1 e))))
  have h1₅ : h₅.IsTupleIter i1 l1 (k1 + 1) := ((h1₂.extBut hs₃.extBut D.TOi1.symm).extBut hs₄.extBut D.i12).extBut hs₅.extBut D.TOi1.symm
  have h2₅ : h₅.IsTupleIter i2 l2 (k2 + 1) := h2₄.extBut hs₅.extBut D.TOi2.symm
  have hzlt : z < h₅.objs.size := Heap.lt_size hz₅
  show wpAny _ _ (Builtin.SmallTypes.ownedTupleHandOut (.ref z) (.ref h₅.objs.size) >>= _) _ _ _
  refine wpAny_bind ?_
  unfold Builtin.SmallTypes.ownedTupleHandOut
  have hz₆ : IsZip (h₅.push { cls := .type "tuple", data := .seq #[x, y] }) z TI TO .ellipsis := Heap.get?_push_of_some _ hz₅
  refine wpAny_bind (wpAny_setField_rec hz₆ (by simp) fun h₇ hz₇ hs₇ => ?_)
  replace hz₇ : IsZip h₇ z TI TO (rawInt h₅.objs.size) := hz₇
  refine wpAny_setField_rec hz₇ (by simp) fun h₈ hz₈ hs₈ => ?_
  replace hz₈ : IsZip h₈ z TI TO (rawInt h₅.objs.size) := hz₈
  have up : ∀ c o, c ≠ z → h₅.get? c = some o → h₈.get? c = some o := fun c o c1 e => hs₈.extBut _ _ c1 (hs₇.extBut _ _ c1 (Heap.get?_push_of_some _ e))
  have hT₈ : IsPair h₈ h₅.objs.size x y := hs₈.extBut _ _ (Nat.ne_of_gt hzlt) (hs₇.extBut _ _ (Nat.ne_of_gt hzlt) (Heap.get?_push_size _ rfl))
  have hz8 : h₈.objs.size = h₅.objs.size + 1 := by rw [hs₈.1, hs₇.1, Heap.size_push]
  rw [hsz] at hz₈ hT₈ hz8
  refine wpAny_pure ⟨_, rfl, ?_⟩
  show Q (.ref h₅.objs.size) _
  rw [hsz]
  exact hQ h₈ hz₈ (up _ _ D.TOz hTO₅) (h1₅.at fun o e => up _ o D.i1z e) (h2₅.at fun o e => up _ o D.i2z e) hT₈ hz8 fun c o c1 c2 c3 c4 e => up c o c1 (hk₅ c o c1 c2 c3 c4 e)

theorem dz_end0 {z TI TO i1 i2 l1 : Addr} {k1 : Nat} {xs : Array Value} {Q : Fin → Shared → Prop} (hh : A.handled = none) (i1z : i1 ≠ z) (l1z : l1 ≠ z)
    (hz : IsZip s.heap z TI TO .none) (hTI : IsPair s.heap TI (.ref i1) (.ref i2)) (h1 : s.heap.IsTupleIter i1 l1 k1) (hl1 : s.heap.IsTuple l1 xs) (hx : xs[k1]? = none)
    (hE : ∀ h' e, (∀ c o, c ≠ z → c ≠ i1 → s.heap.get? c = some o → h'.get? c = some o) → (∃ o, h'.get? e = some o ∧ o.cls = .type "StopIteration") → E (.ref e) { s with heap := h' }) :
    wpAny (model P0 w) A (Builtin.«zip.__next__» ⟨[.ref z], []⟩) Q E s := by
  show wpAny _ _ (field (.ref z) 2 >>= _) _ _ _
  refine wpAny_bind (wpAny_field hz rfl (x := .bool false) rfl ?_)
  show wpAny _ _ (field (.ref z) 3 >>= _) _ _ _
  refine wpAny_bind (wpAny_field hz rfl (x := .ref TI) rfl ?_)
  refine wpAny_bind (wpAny_seqItems hTI rfl ?_)
  show wpAny _ _ (Builtin.SmallTypes.ownedTupleIsFree (.ref z) >>= _) _ _ _
  refine wpAny_bind ?_
  unfold Builtin.SmallTypes.ownedTupleIsFree
  refine wpAny_bind (wpAny_field hz rfl (x := .none) rfl (wpAny_pure ?_))
  rw [if_pos rfl]
  refine wpAny_bind (wpAny_rule ?_)
  refine wpAny_bind (wpAny_field hz rfl (x := .ref TO) rfl ?_)
  refine wpAny_bind (wpAny_setField_rec hz (by simp) fun h₁ hz₁ hs₁ => ?_)
  replace hz₁ : IsZip h₁ z TI TO .ellipsis := hz₁
  refine wpAny_bind ?_
  simp only [List.zipIdx_cons, List.zipIdx_nil, List.forIn_cons, List.forIn_nil]
  refine wpAny_bind (wpAny_bind (wpAny_onRaise ?_))
  show wpAny _ _ (Builtin.SmallTypes.nextOf (.ref i1) >>= _) _ _ _
  have hl1₁ : h₁.IsTuple l1 xs := hl1.at fun o e => hs₁.extBut _ _ l1z e
  refine wpAny_bind (next_tup_end hh (h1.extBut hs₁.extBut i1z) hl1₁ hx fun h₂ e hs₂ he => ?_)
  obtain ⟨oe, hoe, hce⟩ := he
  have hz₂ : IsZip h₂ z TI TO .ellipsis := hs₂ _ _ i1z.symm hz₁
  have hez : e ≠ z := fun x => by subst x; rw [hz₂] at hoe; cases hoe; simp at hce
  refine wpAny_setField_rec hz₂ (by simp) fun h₃ _ hs₃ => hE h₃ e (fun c o c1 c3 x => hs₃.extBut _ _ c1 (hs₂ _ _ c3 (hs₁.extBut _ _ c1 x))) ⟨oe, hs₃.extBut _ _ hez hoe, hce⟩

theorem dz_end1 {z TI TO i1 i2 l1 T : Addr} {oT : Obj} {k1 : Nat} {xs : Array Value} {Q : Fin → Shared → Prop} (hh : A.handled = none) (i1z : i1 ≠ z) (l1z : l1 ≠ z) (TIz : TI ≠ z)
    (hz : IsZip s.heap z TI TO (rawInt T)) (hT : s.heap.get? T = some oT) (hTI : IsPair s.heap TI (.ref i1) (.ref i2)) (h1 : s.heap.IsTupleIter i1 l1 k1) (hl1 : s.heap.IsTuple l1 xs) (hx : xs[k1]? = none)
    (hE : ∀ h' e, (∀ c o, c ≠ z → c ≠ i1 → s.heap.get? c = some o → h'.get? c = some o) → (∃ o, h'.get? e = some o ∧ o.cls = .type "StopIteration") → E (.ref e) { s with heap := h' }) :
    wpAny (model P0 w) A (Builtin.«zip.__next__» ⟨[.ref z], []⟩) Q E s := by
  show wpAny _ _ (field (.ref z) 2 >>= _) _ _ _
  refine wpAny_bind (wpAny_field hz rfl (x := .bool false) rfl ?_)
  show wpAny _ _ (field (.ref z) 3 >>= _) _ _ _
  refine wpAny_bind (wpAny_field hz rfl (x := .ref TI) rfl ?_)
  refine wpAny_bind (wpAny_seqItems hTI rfl ?_)
  show wpAny _ _ (Builtin.SmallTypes.ownedTupleIsFree (.ref z) >>= _) _ _ _
  refine wpAny_bind ?_
  unfold Builtin.SmallTypes.ownedTupleIsFree
  refine wpAny_bind (wpAny_field hz rfl (x := rawInt T) rfl ?_)
  show wpAny _ _ (loadIfAlive ((T : Int).toNat) >>= _) _ _ _
  rw [Int.toNat_natCast]
  refine wpAny_bind (kdx_alive hT ?_)
  simp only [Option.isNone_some, Bool.false_eq_true, if_false]
  refine wpAny_bind (wpAny_field hz rfl (x := .bool false) rfl ?_)
  show wpAny _ _ (setField (.ref z) 1 (.bool true) >>= fun _ => pure false) _ _ _
  refine wpAny_bind (wpAny_setField_rec hz (by simp) fun h₁ hz₁ hs₁ => wpAny_pure ?_)
  simp only [Bool.false_eq_true, if_false]
  refine wpAny_bind ?_
  rw [← Array.forIn_toList]
  simp only [List.forIn_cons]
  refine wpAny_bind (wpAny_bind (wpAny_holding ?_))
  show wpAny _ _ (Builtin.SmallTypes.nextOf (.ref i1) >>= _) _ _ _
  have hl1₁ : h₁.IsTuple l1 xs := hl1.at fun o e => hs₁.extBut _ _ l1z e
  refine wpAny_bind (next_tup_end hh (h1.extBut hs₁.extBut i1z) hl1₁ hx fun h₂ e hs₂ he => ?_)
  exact hE h₂ e (fun c o c1 c3 x => hs₂ _ _ c3 (hs₁.extBut _ _ c1 x)) he
end
end Mine
set_option linter.unusedVariables false
namespace Mine

section
variable {w : World} {A : Around} {E : Value → Shared → Prop} {s : Shared}

theorem dz_next_item {z TI TO i1 i2 l1 l2 : Addr} {k1 k2 : Nat} {xs ys : Array Value} {x y a b : Value} {Q : Option Value → Shared → Prop} (D : ZipApart z TI TO i1 i2 l1 l2)
    (hz : IsZip s.heap z TI TO .none) (hTI : IsPair s.heap TI (.ref i1) (.ref i2)) (hTO : IsPair s.heap TO a b)
    (h1 : s.heap.IsTupleIter i1 l1 k1) (h2 : s.heap.IsTupleIter i2 l2 k2) (hl1 : s.heap.IsTuple l1 xs) (hl2 : s.heap.IsTuple l2 ys) (hx : xs[k1]? = some x) (hy : ys[k2]? = some y)
    (hQ : ∀ h', IsZip h' z TI TO (rawInt s.heap.objs.size) → IsPair h' TO x y → h'.IsTupleIter i1 l1 (k1 + 1) → h'.IsTupleIter i2 l2 (k2 + 1) → IsPair h' s.heap.objs.size x y → h'.objs.size = s.heap.objs.size + 1 →
      (∀ c o, c ≠ z → c ≠ TO → c ≠ i1 → c ≠ i2 → s.heap.get? c = some o → h'.get? c = some o) → Q (some (.ref s.heap.objs.size)) { s with heap := h' }) :
    wpAny (model P0 w) A (pyNext (.ref z)) Q E s := by
  have hT : s.TypeIs (.ref z) "zip" := ⟨_, hz, rfl⟩
  unfold pyNext
  exact wpAny_bind (wpAny_attempt (wpAny_callSpecial?_slot (name := Str.ofString "__next__") hT F.slot_zip_next
    (wpAny_call_entry F.slot_zip_next hT F.entry_zip_next
      (dz_item D hz hTI hTO h1 h2 hl1 hl2 hx hy fun h' a1 a2 a3 a4 a5 a6 a7 => wpAny_pure (hQ h' a1 a2 a3 a4 a5 a6 a7)) (F.args_zip_next_1 _))))

theorem dz_next_end0 {z TI TO i1 i2 l1 : Addr} {k1 : Nat} {xs : Array Value} {Q : Option Value → Shared → Prop} (hh : A.handled = none) (i1z : i1 ≠ z) (l1z : l1 ≠ z)
    (hz : IsZip s.heap z TI TO .none) (hTI : IsPair s.heap TI (.ref i1) (.ref i2)) (h1 : s.heap.IsTupleIter i1 l1 k1) (hl1 : s.heap.IsTuple l1 xs) (hx : xs[k1]? = none)
    (hQ : ∀ h', (∀ c o, c ≠ z → c ≠ i1 → s.heap.get? c = some o → h'.get? c = some o) → Q none { s with heap := h' }) : wpAny (model P0 w) A (pyNext (.ref z)) Q E s := by
  have hT : s.TypeIs (.ref z) "zip" := ⟨_, hz, rfl⟩
  unfold pyNext
  refine wpAny_bind (wpAny_attempt (wpAny_callSpecial?_slot (name := Str.ofString "__next__") hT F.slot_zip_next
    (wpAny_call_entry F.slot_zip_next hT F.entry_zip_next (dz_end0 hh i1z l1z hz hTI h1 hl1 hx fun h' e hk he => ?_) (F.args_zip_next_1 _))))
  obtain ⟨o, ho, hc⟩ := he
  refine wpAny_bind (wpAny_isInstance (T := "StopIteration") (b := true) ⟨o, ho, hc⟩ isSubtype_stop ?_)
  exact wpAny_pure (hQ _ hk)

theorem dz_next_end1 {z TI TO i1 i2 l1 T : Addr} {oT : Obj} {k1 : Nat} {xs : Array Value} {Q : Option Value → Shared → Prop} (hh : A.handled = none) (i1z : i1 ≠ z) (l1z : l1 ≠ z) (TIz : TI ≠ z)
    (hz : IsZip s.heap z TI TO (rawInt T)) (hTo : s.heap.get? T = some oT) (hTI : IsPair s.heap TI (.ref i1) (.ref i2)) (h1 : s.heap.IsTupleIter i1 l1 k1) (hl1 : s.heap.IsTuple l1 xs) (hx : xs[k1]? = none)
    (hQ : ∀ h', (∀ c o, c ≠ z → c ≠ i1 → s.heap.get? c = some o → h'.get? c = some o) → Q none { s with heap := h' }) : wpAny (model P0 w) A (pyNext (.ref z)) Q E s := by
  have hT : s.TypeIs (.ref z) "zip" := ⟨_, hz, rfl⟩
  unfold pyNext
  refine wpAny_bind (wpAny_attempt (wpAny_callSpecial?_slot (name := Str.ofString "__next__") hT F.slot_zip_next
    (wpAny_call_entry F.slot_zip_next hT F.entry_zip_next (dz_end1 hh i1z l1z TIz hz hTo hTI h1 hl1 hx fun h' e hk he => ?_) (F.args_zip_next_1 _))))
  obtain ⟨o, ho, hc⟩ := he
  refine wpAny_bind (wpAny_isInstance (T := "StopIteration") (b := true) ⟨o, ho, hc⟩ isSubtype_stop ?_)
  exact wpAny_pure (hQ _ hk)

noncomputable abbrev tz1 (h : Heap) (l1 : Addr) : Heap := h.push { cls := .type "tuple_iterator", data := .fields #[.ref l1, .int 0 0] }
noncomputable abbrev tz2 (h : Heap) (l1 l2 : Addr) : Heap := (tz1 h l1).push { cls := .type "tuple_iterator", data := .fields #[.ref l2, .int 0 0] }
noncomputable abbrev tz3 (h : Heap) (l1 l2 : Addr) : Heap := (tz2 h l1 l2).push { cls := .type "tuple", data := .seq #[.ref h.objs.size, .ref (tz1 h l1).objs.size] }
noncomputable abbrev tz4 (h : Heap) (l1 l2 : Addr) : Heap := (tz3 h l1 l2).push { cls := .type "tuple", data := .seq #[.none, .none] }
noncomputable abbrev tz5 (h : Heap) (l1 l2 : Addr) : Heap := (tz4 h l1 l2).push { cls := .type "zip", data := .fields #[.none, .bool false, .bool false, .ref (tz2 h l1 l2).objs.size, .ref (tz3 h l1 l2).objs.size] }

theorem dz_new (l1 l2 : Addr) (xs ys : Array Value) :
    Meets (Builtin.«zip.__new__» ⟨[.type "zip", .ref l1, .ref l2], []⟩) (fun _ R s => s.heap.IsTuple l1 xs ∧ s.heap.IsTuple l2 ys ∧
      R (.ok (.ret (.ref (tz4 s.heap l1 l2).objs.size))) { s with heap := tz5 s.heap l1 l2 }) :=
  .of_wp fun prog w A R s h => by
    obtain ⟨hp, g, d, tk, os⟩ := s; obtain ⟨hl1, hl2, h⟩ := h
    have hsub := sub_zip
    have hL1 : Heap.IsTuple (Shared.heap ⟨hp, g, d, tk, os⟩) l1 xs := hl1
    have hL2 : Heap.IsTuple (Shared.heap ⟨hp.push { cls := .type "tuple_iterator", data := .fields #[.ref l1, .int 0 0] }, g, d, tk, os⟩) l2 ys := Heap.IsTuple.push hl2 _
    wp_walk using wpAny_pyIter_tuple hL1, wpAny_pyIter_tuple hL2
    exact ⟨_, rfl, h⟩

theorem dz_zip {l1 l2 : Addr} {xs ys : Array Value} {Q : Value → Shared → Prop} (hl1 : s.heap.IsTuple l1 xs) (hl2 : s.heap.IsTuple l2 ys)
    (h : ∀ h', IsZip h' (s.heap.objs.size + 4) (s.heap.objs.size + 2) (s.heap.objs.size + 3) .none → IsPair h' (s.heap.objs.size + 2) (.ref s.heap.objs.size) (.ref (s.heap.objs.size + 1)) →
      IsPair h' (s.heap.objs.size + 3) .none .none → h'.IsTupleIter s.heap.objs.size l1 0 → h'.IsTupleIter (s.heap.objs.size + 1) l2 0 → h'.objs.size = s.heap.objs.size + 5 →
      (∀ c o, s.heap.get? c = some o → h'.get? c = some o) → Q (.ref (s.heap.objs.size + 4)) { s with heap := h' }) :
    wpAny (model P0 w) A (call (.type "zip") [.ref l1, .ref l2]) Q E s := by
  refine callType_new F.called_zip (by decide) (F.typeCall_zip_2 _ _) (F.newCall_zip_2 _ _) (fun obj => F.args_object_init_3 obj _ _) F.entry_zip_new
    (dz_new l1 l2 xs ys) ⟨hl1, hl2, ?_⟩
  have z1 : (tz1 s.heap l1).objs.size = s.heap.objs.size + 1 := Heap.size_push ..
  have z2 : (tz2 s.heap l1 l2).objs.size = s.heap.objs.size + 2 := by rw [Heap.size_push, z1]
  have z3 : (tz3 s.heap l1 l2).objs.size = s.heap.objs.size + 3 := by rw [Heap.size_push, z2]
  have z4 : (tz4 s.heap l1 l2).objs.size = s.heap.objs.size + 4 := by rw [Heap.size_push, z3]
  have z5 : (tz5 s.heap l1 l2).objs.size = s.heap.objs.size + 5 := by rw [Heap.size_push, z4]
  have g5 : (tz5 s.heap l1 l2).get? (tz4 s.heap l1 l2).objs.size = some _ := Heap.get?_push_size _ rfl
  have g4 : (tz5 s.heap l1 l2).get? (tz3 s.heap l1 l2).objs.size = some _ := Heap.get?_push_of_some _ (Heap.get?_push_size _ rfl)
  have g3 : (tz5 s.heap l1 l2).get? (tz2 s.heap l1 l2).objs.size = some _ := Heap.get?_push_of_some _ (Heap.get?_push_of_some _ (Heap.get?_push_size _ rfl))
  have g2 : (tz5 s.heap l1 l2).get? (tz1 s.heap l1).objs.size = some _ := Heap.get?_push_of_some _ (Heap.get?_push_of_some _ (Heap.get?_push_of_some _ (Heap.get?_push_size _ rfl)))
  have g1 : (tz5 s.heap l1 l2).get? s.heap.objs.size = some _ := Heap.get?_push_of_some _ (Heap.get?_push_of_some _ (Heap.get?_push_of_some _ (Heap.get?_push_of_some _ (Heap.get?_push_size _ rfl))))
  show _ ∧ _
  rw [z2, z3, z4] at g5
  rw [z1, z2] at g3
  rw [z3] at g4
  rw [z1] at g2
  rw [z4]
  exact ⟨⟨_, g5, rfl⟩, h _ g5 g3 g4 ⟨_, g1, rfl, rfl⟩ ⟨_, g2, rfl, rfl⟩ z5 fun c o x =>
    Heap.get?_push_of_some _ (Heap.get?_push_of_some _ (Heap.get?_push_of_some _ (Heap.get?_push_of_some _ (Heap.get?_push_of_some _ x))))⟩
end
end Mine
set_option linter.unusedVariables false
namespace Mine

theorem dz_plain : plainId "dict.update.loop" = true := by decide +kernel
theorem dz_entry : entryFor table "dict.update.loop" = some Builtin.«dict.update.loop» := entryFor_of_tree (by kernel_rfl)

section
variable {w : World} {A : Around} {E : Value → Shared → Prop} {s : Shared} {R : Result → Shared → Prop}

theorem dz_loop_end {d z : Addr} {i : Int}
    (hn : wpAny (model P0 w) A.in1 (pyNext (.ref z)) (fun r s' => r = none ∧ R (.ok (.ret .none)) s') (fun e s' => R (.error e) s') s) :
    codeAny (model P0 w) A (.builtin "dict.update.loop" ⟨[.ref d, .ref z, rawInt i, .none], []⟩) R s := by
  refine codeAny_builtin dz_entry ?_
  rw [Around.under_plainId dz_plain _]
  unfold Builtin.«dict.update.loop»
  refine wpAny_bind (wpAny_mono hn (fun r s' q => ?_) fun _ _ e => e)
  obtain ⟨rfl, q⟩ := q
  exact wpAny_bind (wpAny_pure (wpAny_pure q))

theorem dz_loop_item {d z T : Addr} {i : Int} {x y : Value} (hn : wpAny (model P0 w) A.in1 (pyNext (.ref z)) (fun r s' => r = some (.ref T) ∧ IsPair s'.heap T x y ∧
      wpAny (model P0 w) A.in1 (dictSet d x y) (fun _ s'' => codeAny (model P0 w) A (.builtin "dict.update.loop" ⟨[.ref d, .ref z, rawInt (i + 1), .none], []⟩) R s'') (fun e s' => R (.error e) s') s') (fun e s' => R (.error e) s') s) :
    codeAny (model P0 w) A (.builtin "dict.update.loop" ⟨[.ref d, .ref z, rawInt i, .none], []⟩) R s := by
  refine codeAny_builtin dz_entry ?_
  rw [Around.under_plainId dz_plain _]
  unfold Builtin.«dict.update.loop»
  refine wpAny_bind (wpAny_mono hn (fun r s' q => ?_) fun _ _ e => e)
  obtain ⟨rfl, hT, q⟩ := q
  refine wpAny_bind (wpAny_holding ?_)
  refine wpAny_bind (wpAny_tryCatch ?_)
  have hTy : s'.TypeIs (.ref T) "tuple" := ⟨_, hT, rfl⟩
  unfold Builtin.Dict.pairItems
  refine wpAny_bind (wpAny_typeOf hTy ?_)
  rw [beq_self_eq_true, Bool.or_true, if_pos rfl]
  refine wpAny_bind (wpAny_seqItems hT rfl (wpAny_pure ?_))
  show wpAny _ _ (holding [x, y] (dictSet d x y)) _ _ _
  exact wpAny_holding (wpAny_mono q (fun _ s'' q => wpAny_pure ⟨plainId_quiet dz_plain _, q⟩) fun _ _ e => e)

theorem dz_dict {z : Addr} {Q : Value → Shared → Prop} {vs : Array Value} (hA : A.handled = none) (hz : s.heap.get? z = some { cls := .type "zip", dict := none, data := .fields vs, slots := #[] }) {TI TO : Addr} {f0 : Value} (hvs : vs = #[f0, .bool false, .bool false, .ref TI, .ref TO])
    (h : ∀ h' tk, (∀ b o, s.heap.get? b = some o → h'.get? b = some o) → h'.DictOf (PySem.strKind P0 w) s.heap.objs.size [] → IsZip h' z TI TO f0 →
      codeAny (model P0 w) A.in1 (.builtin "dict.update.loop" ⟨[.ref s.heap.objs.size, .ref z, rawInt 0, .none], []⟩) (wants (fun r s₂ => r = .none ∧ Q (.ref s.heap.objs.size) s₂) E) { s with heap := h', toks := tk }) :
    wpAny (model P0 w) A (call (.type "dict") [.ref z]) Q E s := by
  subst hvs
  refine callType_codes (Q₁ := fun obj s₁ => obj = .ref s.heap.objs.size ∧ s₁ = { s with heap := s.heap.push { cls := .type "dict", data := .dict #[] } }) F.kt_called_dict (F.kt_typeCall_dict_1 _) F.entry_dict_init (kt_code_dict_new _ ⟨rfl, rfl⟩) ?_
  rintro obj s₁ ⟨rfl, rfl⟩
  have hnew : (s.heap.push { cls := .type "dict", data := .dict #[] }).DictOf (PySem.strKind P0 w) s.heap.objs.size [] := Heap.DictOf.new s.heap
  have hz' : (s.heap.push { cls := .type "dict", data := .dict #[] }).get? z = some { cls := .type "zip", dict := none, data := .fields #[f0, .bool false, .bool false, .ref TI, .ref TO], slots := #[] } := Heap.get?_push_of_some _ hz
  refine ⟨hnew.typeIs, F.args_dict_init_2 _ _, ?_⟩
  unfold Builtin.«dict.__init__»
  refine wpAny_bind ?_
  unfold Builtin.Dict.selfAndRest
  refine wpAny_bind (wpAny_notOrdered_dict hnew.typeIs ?_)
  show wpAny _ _ (pure (s.heap.objs.size, [Value.ref z])) _ _ _
  refine wpAny_pure ?_
  show wpAny _ _ (Builtin.Dict.updateFrom "dict.__init__" s.heap.objs.size (.ref z) [] .none) _ _ _
  unfold Builtin.Dict.updateFrom
  refine wpAny_bind (wpAny_typeOf (T := "zip") ⟨_, hz', rfl⟩ ?_)
  rw [if_pos (by decide)]
  refine wpAny_bind (dz_keys hz' hA fun h' tk hk => ?_)
  rw [Option.isNone_none, if_pos rfl]
  refine wpAny_bind (wpAny_rule ?_)
  refine wpAny_bind (wpAny_pyIter_zip (hk _ _ hz') ?_)
  exact wpAny_pure ⟨plainId_quiet dz_plain _, h h' tk (fun b o e => hk b o (Heap.get?_push_of_some _ e)) (DictOf.up hnew (hk _)) (hk _ _ hz')⟩

theorem dz_mid (m l1 l2 : Nat) (h1 : l1 < m) (h2 : l2 < m) : ZipApart (m + 4) (m + 2) (m + 3) m (m + 1) l1 l2 := by
  constructor <;> (show @Ne Nat _ _; omega)

end

section
variable {w : World} {base : Heap} {mg mb : Str → Option Value} {env : Env} {X μ : List Addr} {vs : Vars} {own own' : Own} {A : Around} {s : Shared} {n : Nat}

theorem dz_make {l1 l2 : Addr} {us1 us2 : Array Value} {xs ys : List AV} {ks : List (Str × AV)} (hA : A.handled = none) (S : SR w base env X μ vs own s.heap) (hl1 : PTup s.heap l1 us1) (hl2 : PTup s.heap l2 us2) (r1 : VRs w s.heap X μ xs us1.toList) (r2 : VRs w s.heap X μ ys us2.toList) (h : zipDict xs ys = some ks) :
    wpAny (model P0 w) A (call (.type "zip") [.ref l1, .ref l2]) (fun v s₁ => wpAny (model P0 w) A (call (.type "dict") [v]) (AftE w base env X μ vs s own (.dct ks)) noE s₁) noE s := by
  have lt1 : l1 < s.heap.objs.size := hl1.elim fun _ e => Heap.lt_size e
  have lt2 : l2 < s.heap.objs.size := hl2.elim fun _ e => Heap.lt_size e
  refine dz_zip hl1.is hl2.is fun h₁ hz hTI hTO hi1 hi2 hsz hk₁ => ?_
  have D : ZipApart (s.heap.objs.size + 4) (s.heap.objs.size + 2) (s.heap.objs.size + 3) s.heap.objs.size (s.heap.objs.size + 1) l1 l2 := dz_mid _ _ _ lt1 lt2
  refine dz_dict (s := { s with heap := h₁ }) hA hz rfl fun h₂ tk hk₂ hd hz₂ => ?_
  have hd0 : h₁.objs.size = s.heap.objs.size + 5 := hsz
  have old : ∀ b o, s.heap.get? b = some o → h₂.get? b = some o := fun b o e => hk₂ b o (hk₁ b o e)
  have hTI₂ : IsPair h₂ (s.heap.objs.size + 2) (.ref s.heap.objs.size) (.ref (s.heap.objs.size + 1)) := hk₂ _ _ hTI
  have hTO₂ : IsPair h₂ (s.heap.objs.size + 3) .none .none := hk₂ _ _ hTO
  have hi1₂ : h₂.IsTupleIter s.heap.objs.size l1 0 := hi1.at fun o e => hk₂ _ o e
  have hi2₂ : h₂.IsTupleIter (s.heap.objs.size + 1) l2 0 := hi2.at fun o e => hk₂ _ o e
  have hl1₂ : h₂.IsTuple l1 us1 := hl1.is.at fun o e => old _ o e
  have hl2₂ : h₂.IsTuple l2 us2 := hl2.is.at fun o e => old _ o e
  have lt_old : ∀ b o, s.heap.get? b = some o → b ≠ s.heap.objs.size + 4 ∧ b ≠ s.heap.objs.size + 3 ∧ b ≠ s.heap.objs.size ∧ b ≠ s.heap.objs.size + 1 ∧ b ≠ h₁.objs.size := fun b o e => by
    have this : @LT.lt Nat _ b s.heap.objs.size := Heap.lt_size e
    have hd0' : @Eq Nat h₁.objs.size (s.heap.objs.size + 5) := hd0
    refine ⟨?_, ?_, ?_, ?_, ?_⟩ <;> (show @Ne Nat _ _; omega)
  have dne : ∀ h' : Heap, h₁.objs.size ∉ X := fun h' hx => by
    obtain ⟨_, _, o, e⟩ := S.baseX _ hx
    have this : @LT.lt Nat _ h₁.objs.size s.heap.objs.size := Heap.lt_size e
    omega
  have sys : (h₁.objs.size == sysModules) = false := by
    have h1 : @LT.lt Nat _ sysModules 83 := by decide
    have h2 : @LT.lt Nat _ 83 s.heap.objs.size := S.big
    refine beq_eq_false_iff_ne.mpr fun q => ?_
    have q : @Eq Nat h₁.objs.size sysModules := q
    omega
  obtain ⟨od, esd, epd, hod, hdr⟩ := hd
  have hdlt : h₁.objs.size < h₂.objs.size := Heap.lt_size hod
  have dk : h₁.objs.size ≠ s.heap.objs.size + 4 ∧ h₁.objs.size ≠ s.heap.objs.size + 3 ∧ h₁.objs.size ≠ s.heap.objs.size ∧ h₁.objs.size ≠ s.heap.objs.size + 1 ∧ h₁.objs.size ≠ s.heap.objs.size + 2 := by
    refine ⟨?_, ?_, ?_, ?_, ?_⟩ <;> (show @Ne Nat _ _; omega)
  unfold zipDict at h
  cases q : one? xs with
  | none =>
    rw [q] at h
    refine ite_then h fun hc h => so h (and_is hc fun c1 _ => ?_)
    have e1 : us1[0]? = none := Array.getElem?_eq_none (Nat.le_of_eq (r1.size.trans (congrArg List.length (List.isEmpty_iff.mp c1))))
    refine dz_loop_end (s := { s with heap := h₂, toks := tk }) (dz_next_end0 (A := A.in1.in1) hA D.i1z D.l1z hz₂ hTI₂ hi1₂ hl1₂ e1 fun h₃ hk₃ => ⟨rfl, rfl, ?_⟩)
    exact AftE.same S (fun a o e => hk₃ a o (lt_old a o e).1 (lt_old a o e).2.2.1 (old a o e)) (.dct ⟨od, esd, epd, hk₃ _ _ dk.1 dk.2.2.1 hod, hdr⟩ (dne h₁) sys .nil)
  | some x₀ =>
    rw [q] at h
    refine bind_any h fun x hx h => mo h fun d hd => ?_
    rw [one?_is q, st?_is hx] at r1
    rw [one?_is hd] at r2
    obtain ⟨u1, hu1, ru1⟩ : ∃ u, us1.toList = [u] ∧ VR w s.heap X μ (.str x) u := r1.oneI (N := fun us => ∃ u, us = [u] ∧ VR w s.heap X μ (.str x) u) fun u r => ⟨u, rfl, r⟩
    obtain ⟨u2, hu2, ru2⟩ : ∃ u, us2.toList = [u] ∧ VR w s.heap X μ d u := r2.oneI (N := fun us => ∃ u, us = [u] ∧ VR w s.heap X μ d u) fun u r => ⟨u, rfl, r⟩
    have g1 : us1[0]? = some u1 := by rw [← Array.getElem?_toList, hu1]; rfl
    have g2 : us2[0]? = some u2 := by rw [← Array.getElem?_toList, hu2]; rfl
    have g3 : us1[0 + 1]? = none := by rw [← Array.getElem?_toList, hu1]; rfl
    obtain ⟨t, rfl⟩ : ∃ t, u1 = .str x t := ru1.vw
    refine dz_loop_item (s := { s with heap := h₂, toks := tk }) (T := h₂.objs.size) (dz_next_item (A := A.in1.in1) (s := { s with heap := h₂, toks := tk }) D hz₂ hTI₂ hTO₂ hi1₂ hi2₂ hl1₂ hl2₂ g1 g2 fun h₃ z1 z2 z3 z4 z5 z6 z7 => ⟨rfl, z5, ?_⟩)
    have l1ne : l1 ≠ h₁.objs.size := by show @Ne Nat _ _; have : @LT.lt Nat _ l1 s.heap.objs.size := lt1; omega
    have hd₃ : h₃.DictOf (PySem.strKind P0 w) h₁.objs.size [] := ⟨od, esd, epd, z7 _ _ dk.1 dk.2.1 dk.2.2.1 dk.2.2.2.1 hod, hdr⟩
    refine wpAny_dictSet_pairs (knd := PySem.strKind P0 w) (k := x) (by simp [PySem.strKind, Value.isStrOf]) hd₃ (fun h₄ hd₄ hs₄ => ?_) (by rw [sizeLine_is]; decide)
    have hk₄ : ∀ b o, b ≠ h₁.objs.size → h₃.get? b = some o → h₄.get? b = some o := fun b o q e => hs₄.extBut b o q e
    have hTI₃ : IsPair h₃ (s.heap.objs.size + 2) (.ref s.heap.objs.size) (.ref (s.heap.objs.size + 1)) := z7 _ _ D.TIz D.TITO D.TIi1 D.TIi2 hTI₂
    have hl1₃ : h₃.IsTuple l1 us1 := hl1₂.at fun o e => z7 _ o D.l1z D.l1TO D.l1i1 D.l1i2 e
    refine dz_loop_end (A := A.in1) (dz_next_end1 (A := A.in1.in1) (T := h₂.objs.size) (l1 := l1) hA D.i1z D.l1z D.TIz (hk₄ _ _ dk.1.symm z1) (hk₄ _ _ (Nat.ne_of_gt hdlt) z5) (hk₄ _ _ dk.2.2.2.2.symm hTI₃) (z3.at fun o e => hk₄ _ o dk.2.2.1.symm e) (hl1₃.at fun o e => hk₄ _ o l1ne e) g3 fun h₅ hk₅ => ⟨rfl, rfl, ?_⟩)
    have keep : ∀ a o, s.heap.get? a = some o → h₅.get? a = some o := fun a o e => by
      obtain ⟨q1, q2, q3, q4, q5⟩ := lt_old a o e
      exact hk₅ a o q1 q3 (hk₄ a o q5 (z7 a o q1 q2 q3 q4 (old a o e)))
    exact AftE.same S keep (.dct (DictOf.up hd₄ fun o e => hk₅ _ _ dk.1 dk.2.2.1 e) (dne h₁) sys (.cons (ru2.mono (fun a o e n => ⟨n, keep a o e⟩) ⟨[], (List.append_nil _).symm⟩) .nil))

theorem ev_dictzip {R : Rec} (G : Gd w base mg mb) (hE : SE w base n R.e) (ok : EnvOk env) (hA : Room A n) {f z : Str} {p p' q q' : Pos} {a b : Expr} {xs ys : List AV} {ks : List (Str × AV)}
    (h1 : evName env.scope vs f = some (.val (.type "dict"))) (h2 : evName env.scope vs z = some (.val (.type "zip"))) (h3 : R.es env.scope vs own [a, b] = some ([.tup xs, .tup ys], own')) (h5 : zipDict xs ys = some ks) (S : SR w base env X μ vs own s.heap) :
    wpAny (model P0 w) A (eval (.Call (.Name f p) [.Call (.Name z p') [a, b] [] q] [] q') env) (AftE w base env X μ vs s own' (.dct ks)) noE s := by
  refine es_two h3 fun e1 e2 own₁ he ha hb hbk => ?_
  have q2 := List.cons.inj (List.cons.inj he).2
  rw [← (List.cons.inj he).1] at ha
  rw [← q2.1] at hb
  rw [← (List.cons.inj he).1, ← q2.1] at hbk
  refine wpAny_Call_NameR (then_E (ev_name G h1 ok S) fun v X₁ μ₁ k₁ tk₁ T₁ g₁ S₁ r₁ => r₁.valI ?_)
  refine PySem.callWith_type rfl (Calls.evalArgs_plain (Calls.spliced_cons ?_))
  show wpAny _ _ (eval (.Call (.Name z p') [a, b] [] q) env) _ _ _
  refine wpAny_Call_NameR (then_E (s := { s with heap := k₁, toks := tk₁ }) (ev_name G h2 ok S₁) fun v X₂ μ₂ k₂ tk₂ T₂ g₂ S₂ r₂ => r₂.valI ?_)
  rw [hbk]
  refine PySem.callWith_type rfl (Calls.evalArgs_plain (Calls.spliced_cons (then_E (s := { s with heap := k₂, toks := tk₂ }) (hE.ok ha ok hA S₂) fun va X₃ μ₃ k₃ tk₃ T₃ g₃ S₃ r₃ => Calls.spliced_cons (then_E (s := { s with heap := k₃, toks := tk₃ }) (hE.ok hb ok hA S₃) fun vb X₄ μ₄ k₄ tk₄ T₄ g₄ S₄ r₄ => Calls.spliced_nil ?_))))
  refine (T₄.vr S₃.sub83 r₃).tupI fun l1 us1 hl1 _ hs1 => r₄.tupI fun l2 us2 hl2 _ hs2 => ?_
  refine wm (dz_make (s := { s with heap := k₄, toks := tk₄ }) hA.handled S₄ hl1 hl2 hs1 hs2 h5) fun v s₅ z => Calls.spliced_nil (wm z fun v s₆ z => ?_)
  exact AftE.from T₁ g₁ (AftE.from (s := { s with heap := k₁, toks := tk₁ }) T₂ g₂ (AftE.from (s := { s with heap := k₂, toks := tk₂ }) T₃ g₃ (AftE.from (s := { s with heap := k₃, toks := tk₃ }) T₄ g₄ z)))
end

section
variable {w : World} {base : Heap} {mg mb : Str → Option Value} {env : Env} {X μ : List Addr} {vs : Vars} {own own' : Own} {A : Around} {s : Shared} {n : Nat}

theorem then_B {t : Sem Bool} {own₁ : Own} {d₁ : Bool} {Q : Bool → Shared → Prop} (h : wpAny (model P0 w) A t (AftB w base env X μ vs s own₁ d₁) noE s)
    (hk : ∀ X₁ μ₁ h₁ tk₁, St (83 :: μ) X μ s.heap X₁ μ₁ h₁ → (∀ a ∈ X, a ∈ X₁) → SR w base env X₁ μ₁ vs own₁ h₁ → Q d₁ { s with heap := h₁, toks := tk₁ }) : wpAny (model P0 w) A t Q noE s :=
  wm h fun v s₁ q => q.casesOn fun X₁ μ₁ h₁ tk₁ e T g S₁ r => e ▸ r ▸ hk X₁ μ₁ h₁ tk₁ T g S₁

theorem is_val {e : Expr} (h : valTest e = true) (env : Env) (whole : Sem Value) : isTrue e env whole = (do let v ← whole; standAt e.pos; holding [v] (truthy v)) := by
  cases e <;> first | rfl | cases h

theorem st_ts {R : Rec} (hT : ST w base n R.t) (ok : EnvOk env) (hA : Room A n) (op : BoolOp) {es : List Expr} {X μ : List Addr} {own : Own} {s : Shared} {d : Bool} {own' : Own} (h : stepTs R env.scope vs op own es = some (d, own')) (S : SR w base env X μ vs own s.heap) :
    wpAny (model P0 w) A (allTrue op es env) (AftB w base env X μ vs s own' d) noE s := by
  induction es generalizing X μ own s with
  | nil => exact sp h (wpAny_pure (AftB.here S))
  | cons e es ih =>
    refine bind_two h fun b own₁ h1 h2 => ?_
    show wpAny _ A (do match op, ← isTrue e env (eval e env) with | .And, false => pure false | .Or, true => pure true | _, _ => allTrue op es env) _ _ s
    refine wpAny_bind (then_B (hT.ok h1 ok hA S) fun X₁ μ₁ k₁ tk₁ T₁ g₁ S₁ => ?_)
    have rest : stepTs R env.scope vs op own₁ es = some (d, own') → wpAny (model P0 w) A (allTrue op es env) (AftB w base env X μ vs s own' d) noE { s with heap := k₁, toks := tk₁ } := fun h2 =>
      wm (ih (s := { s with heap := k₁, toks := tk₁ }) h2 S₁) fun v s' q => AftB.from T₁ g₁ q
    cases op <;> cases b
    · exact sp h2 (wpAny_pure ⟨X₁, μ₁, k₁, tk₁, rfl, T₁, g₁, S₁, rfl⟩)
    · exact rest h2
    · exact rest h2
    · exact sp h2 (wpAny_pure ⟨X₁, μ₁, k₁, tk₁, rfl, T₁, g₁, S₁, rfl⟩)

theorem t_cmp {R : Rec} (hE : SE w base n R.e) (ok : EnvOk env) (hA : Room A n) {l : Expr} {ops : List CmpOp} {rs : List Expr} {p : Pos} {d : Bool} (whole : Sem Value) (h : tCmp R env.scope vs own l ops rs p = some (d, own')) (S : SR w base env X μ vs own s.heap) :
    wpAny (model P0 w) A (isTrue (.Compare l ops rs p) env whole) (AftB w base env X μ vs s own' d) noE s := by
  unfold tCmp at h
  cases q : two? ops with
  | none =>
    rw [q] at h
    refine bind_any h fun r h1 h => map_any h fun b h2 e => pair_is e fun e1 e2 => ?_
    subst e1 e2
    refine bind_any h1 fun op h3 h1 => bind_any h1 fun r' h4 h1 => ite_else h1 fun hm h1 => bind_two h1 fun a o1 e1 h1 => bind_two h1 fun b' o2 e2 h1 => map_any h1 fun c e3 e => ?_
    subst e
    rw [one?_is h3, one?_is h4]
    cases h2
    exact (ev_compare hE ok hA (by simpa using hm) e1 e2 e3 S).2 _
  | some o =>
    rw [q] at h
    refine bind_any h fun r h4 h => ite_else h fun hm h => bind_two h fun a own₁ h1 h => bind_two h fun b own₂ h3 h => bind_any h fun c1 h5 h6 => ?_
    rw [two?_is q, two?_is h4]
    refine PyProof.Rows.isTrue_chain ?_ (by simpa using hm)
    refine then_E (hE.ok h1 ok hA S) fun v X₁ μ₁ k₁ tk₁ T₁ g₁ S₁ r₁ => ?_
    refine PyProof.Rows.test_link ?_
    refine then_E (hE.ok (s := { s with heap := k₁, toks := tk₁ }) h3 ok hA S₁) fun v₂ X₂ μ₂ k₂ tk₂ T₂ g₂ S₂ r₂ => ?_
    have T12 := T₁.trans83 T₂
    refine ev_cmp (s := { s with heap := k₂, toks := tk₂ }) S₂ hA (T₂.vr S₁.sub83 r₁) r₂ h5 fun tk => wpAny_truthy_bool ?_
    cases c1 with
    | false =>
      refine some_pair h6 fun e1 e2 => ?_
      subst e1 e2
      exact ⟨X₂, μ₂, k₂, tk, rfl, T12, fun a ha => g₂ a (g₁ a ha), S₂, rfl⟩
    | true =>
      refine bind_two h6 fun c own₃ h7 h => map_any h fun t h9 e => pair_is e fun e1 e2 => ?_
      subst e1 e2
      refine PyProof.Rows.test_last ?_
      refine then_E (hE.ok (s := { s with heap := k₂, toks := tk }) h7 ok hA S₂) fun v₃ X₃ μ₃ k₃ tk₃ T₃ g₃ S₃ r₃ => ?_
      refine ev_cmp (s := { s with heap := k₃, toks := tk₃ }) S₃ hA (T₃.vr S₂.sub83 r₂) r₃ h9 fun tk' => wpAny_truthy_bool ?_
      exact ⟨X₃, μ₃, k₃, tk', rfl, T12.trans83 T₃, fun a ha => g₃ a (g₂ a (g₁ a ha)), S₃, rfl⟩

theorem st_t {R : Rec} (hE : SE w base n R.e) (hT : ST w base n R.t) : ST w base n (stepT R) := ⟨by
  intro env X μ vs own e d own' A s h ok hA S
  unfold stepT at h
  refine ite_any h (fun hv h => bind_any h fun r h1 h => map_any h fun b h2 e => pair_is e fun e1 e2 => ?_) fun _ h => ?_
  · subst e1 e2
    refine wpAny_isTrue_value (then_E (hE.ok h1 ok hA S) fun u X₁ μ₁ k₁ tk₁ T₁ g₁ S₁ r₁ => ?_) (is_val hv _ _)
    rw [bl?_is h2] at r₁
    exact r₁.boolI (wpAny_truthy_bool ⟨X₁, μ₁, k₁, tk₁, rfl, T₁, g₁, S₁, rfl⟩)
  · cases e with
    | UnaryOp op x p =>
      cases op with
      | Not => exact map_any h fun b h1 e => pair_is e fun e1 e2 => e1 ▸ e2 ▸ wpAny_isTrue_Not (then_B (hT.ok h1 ok hA S) fun X₁ μ₁ k₁ tk₁ T₁ g₁ S₁ => ⟨X₁, μ₁, k₁, tk₁, rfl, T₁, g₁, S₁, rfl⟩)
      | _ => exact nn h
    | BoolOp op es p => exact wpAny_isTrue_BoolOp (st_ts hT ok hA _ h S)
    | Compare l ops rs p => exact t_cmp hE ok hA _ h S
    | _ => exact nn h⟩

theorem ev_ifexp {R : Rec} (hE : SE w base n R.e) (hT : ST w base n R.t) (ok : EnvOk env) (hA : Room A n) {t b o : Expr} {pos : Pos} {c : Bool} {d : AV} {own₁ : Own} (h1 : R.t env.scope vs own t = some (c, own₁))
    (h2 : (if c then R.e env.scope vs own₁ b else R.e env.scope vs own₁ o) = some (d, own')) (S : SR w base env X μ vs own s.heap) : wpAny (model P0 w) A (eval (.IfExp t b o pos) env) (AftE w base env X μ vs s own' d) noE s := by
  refine wpAny_IfExp (then_B (hT.ok h1 ok hA S) fun X₁ μ₁ k₁ tk₁ T₁ g₁ S₁ => ?_)
  cases c
  · exact wm (hE.ok (s := { s with heap := k₁, toks := tk₁ }) h2 ok hA S₁) fun v₃ s₃ q => AftE.from T₁ g₁ q
  · exact wm (hE.ok (s := { s with heap := k₁, toks := tk₁ }) h2 ok hA S₁) fun v₃ s₃ q => AftE.from T₁ g₁ q
end

theorem setV_cons (x y : Str) (d e : AV) (r : Vars) : setV x d ((y, e) :: r) = if y == x then (y, d) :: r else (y, e) :: setV x d r := rfl
theorem lookup_setV (x y : Str) (d : AV) (vs : Vars) : (setV x d vs).lookup y = if y = x then some d else vs.lookup y := by
  induction vs with
  | nil =>
    by_cases e : y = x
    · rw [if_pos e, e]; exact lookup_self _ _ _
    · rw [if_neg e]; exact lookup_ne e _ _
  | cons p r ih =>
    obtain ⟨z, e⟩ := p
    rw [setV_cons]
    by_cases q : z = x
    · rw [if_pos (beq_iff_eq.mpr q)]
      by_cases e : y = x
      · rw [if_pos e, e, ← q]; exact lookup_self _ _ _
      · rw [if_neg e, lookup_ne (q ▸ e), lookup_ne (q ▸ e)]
    · rw [if_neg fun k => q (beq_iff_eq.mp k)]
      by_cases e : y = z
      · rw [if_neg (e ▸ q), e, lookup_self, lookup_self]
      · rw [lookup_ne e, lookup_ne e]; exact ih

noncomputable def noClo (vs : Vars) : Bool := vs.all fun v => !isClo v.2
theorem noClo_setV {x : Str} {d : AV} {vs : Vars} (h : ((vs.lookup x).all fun d => !isClo d) = true) (q : noClo (setV x d vs) = true) : noClo vs = true := by
  induction vs with
  | nil => rfl
  | cons p r ih =>
    obtain ⟨z, e⟩ := p
    rw [setV_cons] at q
    by_cases k : z = x
    · rw [if_pos (beq_iff_eq.mpr k)] at q
      rw [k, lookup_self] at h
      exact Bool.and_eq_true_iff.mpr ⟨h, (Bool.and_eq_true_iff.mp q).2⟩
    · rw [if_neg fun q => k (beq_iff_eq.mp q)] at q
      rw [lookup_ne fun q => k q.symm] at h
      exact Bool.and_eq_true_iff.mpr ⟨(Bool.and_eq_true_iff.mp q).1, ih h (Bool.and_eq_true_iff.mp q).2⟩
theorem noClo_all {x : Str} {vs : Vars} (h : noClo vs = true) : ((vs.lookup x).all fun d => !isClo d) = true := by
  cases e : vs.lookup x with
  | none => rfl
  | some d => exact List.all_eq_true.mp h (x, d) (lookup_mem e)

section
variable {w : World} {base : Heap} {mg mb : Str → Option Value} {env : Env} {X μ : List Addr} {vs : Vars} {own own' : Own} {A : Around} {s : Shared} {n : Nat}

theorem St.wider {W W' X' μ' : List Addr} {h h' : Heap} (T : St W X μ h X' μ' h') (hW : ∀ a ∈ W, a ∈ W') : St W' X μ h X' μ' h' := ⟨fun a o e k => T.keep a o e fun q => k (hW a q), T.live, T.fresh, T.pre⟩
theorem sub_WS : ∀ a ∈ (83 :: μ : List Addr), a ∈ WS env μ := fun _ ha => (List.mem_cons.mp ha).elim (fun q => List.mem_cons.mpr (.inl q)) fun q => List.mem_cons_of_mem _ (List.mem_cons_of_mem _ (List.mem_append_right _ q))
theorem mem_WS {a : Addr} (h : a ∈ WS env μ) : a = 83 ∨ a = env.locals ∨ a ∈ cellsOf env ∨ a ∈ μ := (List.mem_cons.mp h).imp id fun h => (List.mem_cons.mp h).imp id List.mem_append.mp

theorem cellOf_mem {x : Str} {c : Addr} (e : env.cells.lookup x = some c) : c ∈ cellsOf env := List.mem_map.mpr ⟨(x, c), lookup_mem e, rfl⟩

theorem St.cell {W X' μ' : List Addr} {h h' : Heap} (T : St W X μ h X' μ' h') {c : Addr} (q : (∃ v, h.IsCell c v) ∧ c ∉ μ ∧ c ≠ 83 ∧ c ≠ env.locals) (hc : c ∉ W) : (∃ v, h'.IsCell c v) ∧ c ∉ μ' ∧ c ≠ 83 ∧ c ≠ env.locals :=
  ⟨q.1.imp fun _ r => IsCell.up r fun o e => T.keep c o e hc, T.off (q.1.elim fun _ r => r.imp fun _ r => r.1) q.2.1, q.2.2⟩
theorem SRs.ofE {h h' : Heap} {X' μ' : List Addr} (S : SRs w base env X μ vs own h) (T : St (83 :: μ) X μ h X' μ' h') (g : ∀ a ∈ X, a ∈ X') (S' : SR w base env X' μ' vs own' h') : SRs w base env X' μ' vs own' h' :=
  ⟨S', fun q x c e => g c (S.cin q x c e), fun x c e => T.cell (S.cat x c e) fun q => (List.mem_cons.mp q).elim (S.cat x c e).2.2.1 (S.cat x c e).2.1, S.cinj, S.cmem⟩

theorem AftS.ofE {d : AV} {v : Value} {fl : Fl} {f : Flow} {s' : Shared} (S : SRs w base env X μ vs own s.heap) (q : AftE w base env X μ vs s own' d v s') (hf : ∀ h' X' μ', VR w h' X' μ' d v → FlowIs w h' X' μ' f fl) : AftS w base env X μ s vs own' fl f s' :=
  q.casesOn fun X' μ' h' tk e T g S' r => ⟨X', μ', h', tk, e, T.wider sub_WS, fun a ha _ => g a ha, S.ofE T g S', hf _ _ _ r⟩

theorem St.transW {X₁ μ₁ X₂ μ₂ : List Addr} {h h₁ h₂ : Heap} (S : St (WS env μ) X μ h X₁ μ₁ h₁) (T : St (WS env μ₁) X₁ μ₁ h₁ X₂ μ₂ h₂) : St (WS env μ) X μ h X₂ μ₂ h₂ :=
  S.trans T fun a ha => (mem_WS ha).elim (fun q => .inl (List.mem_cons.mpr (.inl q))) fun ha => ha.elim (fun q => .inl (List.mem_cons_of_mem _ (List.mem_cons.mpr (.inl q)))) fun ha => ha.elim (fun q => .inl (List.mem_cons_of_mem _ (List.mem_cons_of_mem _ (List.mem_append_left _ q)))) fun q => (S.back q).imp (fun q => List.mem_cons_of_mem _ (List.mem_cons_of_mem _ (List.mem_append_right _ q))) id

theorem AftS.from {X₁ μ₁ : List Addr} {h₁ : Heap} {tk₁ : Tok} {vs' : Vars} {fl : Fl} {f : Flow} {s' : Shared} (T : St (WS env μ) X μ s.heap X₁ μ₁ h₁) (g : ∀ a ∈ X, a ∉ cellsOf env → a ∈ X₁) (a : AftS w base env X₁ μ₁ { s with heap := h₁, toks := tk₁ } vs' own' fl f s') :
    AftS w base env X μ s vs' own' fl f s' := a.casesOn fun X' μ' h' tk e T' g' S' r => ⟨X', μ', h', tk, e, T.transW T', fun a ha hc => g' a (g a ha hc) hc, S', r⟩

theorem Core.touch {h h' : Heap} {I : Addr} (C : Core w base X μ own h) (hk : ∀ b o, b ≠ I → h.get? b = some o → h'.get? b = some o) (hX : I ∈ X) (hμ : I ∉ μ) (h83 : I ≠ 83) (he : ∃ o, h'.get? I = some o) :
    Core w base X μ own h' ∧ ∀ W, I ∈ W → St W X μ h X μ h' :=
  have hk2 : ∀ b o, h.get? b = some o → b ∉ X → b ∉ X ∧ h'.get? b = some o := fun b o e hb => ⟨hb, hk b o (fun q => hb (q ▸ hX)) e⟩
  have all : ∀ b, (∃ o, h.get? b = some o) → ∃ o, h'.get? b = some o := fun b q => (Decidable.em (b = I)).elim (fun z => z ▸ he) fun z => q.imp fun o e => hk b o z e
  ⟨⟨fun b o e => hk b o (fun q => nn ((C.baseX I hX).1.symm.trans (q ▸ e))) (C.stays b o e), fun b hb => ⟨(C.baseX b hb).1, (C.baseX b hb).2.1, all b (C.has hb)⟩, C.tabX, C.tab.mono hk2 fun o e => hk _ o (fun q => h83 q.symm) e, C.own.mono hk2 ⟨[], (List.append_nil _).symm⟩ fun b hb o e => hk b o (fun q => hμ (q ▸ hb)) e, C.subμ, C.apart⟩,
    fun W hW => ⟨fun b o e hb => hk b o (fun q => hb (q ▸ hW)) e, fun b e => Option.eq_none_iff_forall_ne_some.mpr fun o z => (all b ⟨o, z⟩).elim fun _ y => nn (e.symm.trans y), fun b hb => .inl hb, [], (List.append_nil _).symm, fun _ hb => (List.not_mem_nil hb).elim⟩⟩

inductive AftV (w : World) (base : Heap) (env : Env) (X μ : List Addr) (s : Shared) (vs' : Vars) (own' : Own) (s' : Shared) : Prop
  | mk (X' μ' : List Addr) (h' : Heap) (tk : Tok) (e : s' = { s with heap := h', toks := tk }) (T : St (WS env μ) X μ s.heap X' μ' h') (g : ∀ a ∈ X, a ∈ X') (S : SRs w base env X' μ' vs' own' h')
inductive AftN (w : World) (base : Heap) (env : Env) (W X μ : List Addr) (s : Shared) (R : Heap → Prop) (s' : Shared) : Prop
  | mk (h' : Heap) (tk : Tok) (e : s' = { s with heap := h', toks := tk }) (T : St W X μ s.heap X μ h') (S : R h')

theorem store_key {x : Str} {d : AV} {a : Addr} {h h' : Heap} (S : SRs w base env X μ vs own h) (haX : a ∈ X) (haμ : a ∉ μ) (ha83 : a ≠ 83) (hk' : ∀ b o, b ≠ a → h.get? b = some o → h'.get? b = some o) (hae : ∃ o, h'.get? a = some o) (haW : a ∈ WS env μ)
    (hns : ∃ m, h'.Ns env.locals m ∧ ∀ y e, (setV x d vs).lookup y = some e → env.kindOf y = some .local → ∃ u, m y = some u ∧ VR w h' X μ e u)
    (hcs : ∀ y e, (setV x d vs).lookup y = some e → env.kindOf y ≠ some .local → ∃ c u, env.cells.lookup y = some c ∧ h'.IsCell c (some u) ∧ c ∉ μ ∧ c ≠ 83 ∧ c ≠ env.locals ∧ VR w h' X μ e u)
    (hca : ∀ y c, env.cells.lookup y = some c → ∃ u, h'.IsCell c u) (hp : putOk env.scope vs x = true) : St (WS env μ) X μ h X μ h' ∧ SRs w base env X μ (setV x d vs) own h' :=
  have CT := S.sr.core.touch hk' haX haμ ha83 hae
  have hnc : noClo (setV x d vs) = true → noClo vs = true := ((Bool.or_eq_true _ _).mp hp).elim (fun q => noClo_setV (Bool.and_eq_true_iff.mp q).2) fun q _ => q
  ⟨CT.2 _ haW, ⟨CT.1.stays, CT.1.baseX, CT.1.tabX, CT.1.tab, CT.1.own, CT.1.subμ, S.sr.apart, S.sr.locX, hns, hcs⟩, fun q => S.cin (hnc q), fun y c e => ⟨hca y c e, (S.cat y c e).2⟩, S.cinj, S.cmem⟩

theorem SRs.store {x : Str} {v : Value} {d : AV} (ok : EnvOk env) (S : SRs w base env X μ vs own s.heap) (hk : kindV env.scope x = true) (hp : putOk env.scope vs x = true) (r : VR w s.heap X μ d v) :
    wpAny (model P0 w) A (storeName env x v) (fun _ s' => AftN w base env (WS env μ) X μ s (fun h' => SRs w base env X μ (setV x d vs) own h') s') noE s := by
  have hm : ∃ ν, μ = μ ++ ν := ⟨[], (List.append_nil _).symm⟩
  by_cases hl : env.kindOf x = some .local
  · obtain ⟨m, hn, hv⟩ := S.sr.ns
    refine wpAny_storeName_local hl hn (fun h' hn' hs => ?_) (by rw [ok.kind]; rfl)
    have hk' : ∀ b o, b ≠ env.locals → s.heap.get? b = some o → h'.get? b = some o := fun b o q e => hs.extBut b o q e
    have hk2 : ∀ b o, s.heap.get? b = some o → b ∉ X → b ∉ X ∧ h'.get? b = some o := fun b o e hb => ⟨hb, hk' b o (fun q => hb (q ▸ S.sr.locX)) e⟩
    refine And.elim (fun T S' => ⟨h', _, rfl, T, S'⟩) <| store_key (d := d) S S.sr.locX S.sr.a3 (fun q => S.sr.a1 q.symm) hk' (hn'.imp fun _ r => r.elim fun _ r => r.elim fun _ r => r.1) (List.mem_cons_of_mem _ List.mem_cons_self) ⟨_, hn', fun y e he hky => ?_⟩ (fun y e he hky => ?_) (fun y c e => (S.cat y c e).1.imp fun u r => IsCell.up r fun o => hk' c o (S.cat y c e).2.2.2) hp
    · rw [lookup_setV] at he
      exact ite_any he (fun q he => ⟨v, if_pos q, Option.some.inj he ▸ r.mono hk2 hm⟩) fun q he => (hv y e he hky).imp fun u z => ⟨(if_neg q).trans z.1, z.2.mono hk2 hm⟩
    · rw [lookup_setV, if_neg (fun q : y = x => hky (q ▸ hl))] at he
      exact (S.sr.cells y e he hky).imp fun c z => z.imp fun u z => ⟨z.1, IsCell.up z.2.1 fun o => hk' c o z.2.2.2.2.1, z.2.2.1, z.2.2.2.1, z.2.2.2.2.1, z.2.2.2.2.2.mono hk2 hm⟩
  · have hcell : env.kindOf x = some .cell := eq_of_beq (((Bool.or_eq_true _ _).mp hk).resolve_left fun q => hl (eq_of_beq q))
    have hno : noClo vs = true := ((Bool.or_eq_true _ _).mp hp).resolve_left fun q => hl (eq_of_beq (Bool.and_eq_true_iff.mp q).1)
    obtain ⟨c, ec⟩ := ok.cells x (.inl hcell)
    obtain ⟨⟨v₀, hv₀⟩, c1, c2, c3⟩ := S.cat x c ec
    have hcX := S.cin hno x c ec
    refine wpAny_storeName_cell ok.kind hcell ec hv₀ fun h' hn' hs => ?_
    have hk' : ∀ b o, b ≠ c → s.heap.get? b = some o → h'.get? b = some o := fun b o q e => hs.extBut b o q e
    have hk2 : ∀ b o, s.heap.get? b = some o → b ∉ X → b ∉ X ∧ h'.get? b = some o := fun b o e hb => ⟨hb, hk' b o (fun q => hb (q ▸ hcX)) e⟩
    refine And.elim (fun T S' => ⟨h', s.toks, rfl, T, S'⟩) <| store_key (d := d) S hcX c1 c2 hk' (hn'.imp fun _ r => r.1) (List.mem_cons_of_mem _ (List.mem_cons_of_mem _ (List.mem_append_left _ (cellOf_mem ec)))) ?_ (fun y e he hky => ?_) (fun y c' e => ?_) hp
    · refine S.sr.ns.imp fun m q => ⟨q.1.at fun o e => hk' _ o (fun q => c3 q.symm) e, fun y e he hky => ?_⟩
      rw [lookup_setV, if_neg (fun q : y = x => hl (q ▸ hky))] at he
      exact (q.2 y e he hky).imp fun u z => ⟨z.1, z.2.mono hk2 hm⟩
    · rw [lookup_setV] at he
      refine ite_any he (fun q he => ⟨c, v, q ▸ ec, hn', c1, c2, c3, Option.some.inj he ▸ r.mono hk2 hm⟩) fun q he => (S.sr.cells y e he hky).imp fun c' z => z.imp fun u z => ⟨z.1, IsCell.up z.2.1 fun o => hk' c' o fun k => q (S.cinj y x c' z.1 (k ▸ ec)), z.2.2.1, z.2.2.2.1, z.2.2.2.2.1, z.2.2.2.2.2.mono hk2 hm⟩
    · exact (Decidable.em (c' = c)).elim (fun q => q ▸ ⟨_, hn'⟩) fun q => (S.cat y c' e).1.imp fun u r => IsCell.up r fun o => hk' c' o q
end

section
variable {w : World} {base : Heap} {mg mb : Str → Option Value} {env : Env} {X μ : List Addr} {vs : Vars} {own own' : Own} {A : Around} {s : Shared} {n : Nat}

theorem Core.addX {h h' : Heap} {I : Addr} (C : Core w base X μ own h) (hk : ∀ b o, h.get? b = some o → h'.get? b = some o) (hn : h.get? I = none) (h83 : 83 ≤ I) (he : ∃ o, h'.get? I = some o) :
    Core w base (I :: X) μ own h' ∧ ∀ W, St W X μ h (I :: X) μ h' :=
  have hk2 : ∀ b o, h.get? b = some o → b ∉ X → b ∉ I :: X ∧ h'.get? b = some o := fun b o e hb => ⟨fun q => (List.mem_cons.mp q).elim (fun q => nn (hn.symm.trans (q ▸ e))) hb, hk b o e⟩
  ⟨⟨fun b o e => hk b o (C.stays b o e), fun b hb => (List.mem_cons.mp hb).elim (fun q => q ▸ ⟨C.noB hn, h83, he⟩) fun q => ⟨(C.baseX b q).1, (C.baseX b q).2.1, (C.has q).imp fun _ => hk _ _⟩, List.mem_cons_of_mem _ C.tabX, C.tab.mono hk2 (hk 83), C.own.mono hk2 ⟨[], (List.append_nil _).symm⟩ fun b _ => hk b, fun b hb => List.mem_cons_of_mem _ (C.subμ b hb), C.apart⟩,
    fun W => ⟨fun b o e _ => hk b o e, fun b e => up_no (hk b) e, fun b hb => (List.mem_cons.mp hb).elim (fun q => .inr (q ▸ hn)) .inl, [], (List.append_nil _).symm, fun _ hb => (List.not_mem_nil hb).elim⟩⟩
theorem nodup_snoc {l : List Addr} {a : Addr} (h : l.Nodup) (ha : a ∉ l) : (l ++ [a]).Nodup := List.nodup_append.mpr ⟨h, List.nodup_cons.mpr ⟨List.not_mem_nil, .nil⟩, fun b hb c hc q => ha (List.mem_singleton.mp hc ▸ q ▸ hb)⟩
theorem Core.take {h h' : Heap} {a : Addr} {o : Obj} {od : OD} (C : Core w base X μ own h) (hk : ∀ b o, h.get? b = some o → h'.get? b = some o) (hn : h.get? a = none) (h83 : @LE.le Nat _ 83 a) (ha : h'.get? a = some o) (ho : OIs w h' (a :: X) (μ ++ [a]) a od) :
    Core w base (a :: X) (μ ++ [a]) (own ++ [od]) h' ∧ St (83 :: μ) X μ h (a :: X) (μ ++ [a]) h' :=
  have CT := C.addX hk hn h83 ⟨o, ha⟩
  have ne : ∀ b ∈ X, b ≠ a := fun b hb q => (C.has hb).elim fun _ e => nn (hn.symm.trans (q ▸ e))
  have ap := List.nodup_cons.mp C.apart
  ⟨⟨CT.1.stays, CT.1.baseX, CT.1.tabX, CT.1.tab, (CT.1.own.mono (fun b o e hb => ⟨hb, e⟩) ⟨_, rfl⟩ fun _ _ _ e => e).append (.cons ho .nil), fun b hb => (List.mem_append.mp hb).elim (CT.1.subμ b) fun q => List.mem_cons.mpr (.inl (List.mem_singleton.mp q)),
    List.nodup_cons.mpr ⟨fun q => (List.mem_append.mp q).elim ap.1 fun q => ne 83 C.tabX (List.mem_singleton.mp q), nodup_snoc ap.2 fun q => ne a (C.subμ a q) rfl⟩⟩,
    ⟨(CT.2 (83 :: μ)).keep, (CT.2 (83 :: μ)).live, (CT.2 (83 :: μ)).fresh, [a], rfl, fun b hb => List.mem_singleton.mp hb ▸ hn⟩⟩

theorem SR.back' {W X' μ' : List Addr} {h h' : Heap} (S : SR w base env X μ vs own h) (T : St W X μ h X' μ' h') (hW : ∀ a ∈ W, a ∈ X) (hL : env.locals ∉ W) (hc : ∀ x d c, vs.lookup x = some d → env.kindOf x ≠ some .local → env.cells.lookup x = some c → c ∉ W) (hLX : env.locals ∈ X') (C : Core w base X' μ' own' h') : SR w base env X' μ' vs own' h' :=
  have apC := List.nodup_cons.mp C.apart
  ⟨C.stays, C.baseX, C.tabX, C.tab, C.own, C.subμ, List.nodup_cons.mpr ⟨fun q => (List.mem_cons.mp q).elim S.a1 apC.1, List.nodup_cons.mpr ⟨T.off (S.baseX _ S.locX).2.2 S.a3, apC.2⟩⟩, hLX,
    S.ns.imp fun m q => ⟨q.1.elim fun o r => r.elim fun es r => r.elim fun ep r => ⟨o, es, ep, T.keep _ _ r.1 hL, r.2⟩, fun x d e k => (q.2 x d e k).imp fun v r => ⟨r.1, T.vr hW r.2⟩⟩,
    fun x d e k => (S.cells x d e k).imp fun c q => q.imp fun v q => ⟨q.1, IsCell.up q.2.1 fun o ho => T.keep _ _ ho (hc x d c e k q.1), T.off (q.2.1.imp fun _ r => r.1) q.2.2.1, q.2.2.2.1, q.2.2.2.2.1, T.vr hW q.2.2.2.2.2⟩⟩
theorem SR.not83 {h : Heap} (S : SR w base env X μ vs own h) : ∀ x d c, vs.lookup x = some d → env.kindOf x ≠ some .local → env.cells.lookup x = some c → c ∉ (83 :: μ : List Addr) := fun x d c e k ec q =>
  (S.cells x d e k).elim fun c' z => z.elim fun v z => so (z.1.symm.trans ec) (M := fun c => c ∈ (83 :: μ : List Addr) → False) (fun q => (List.mem_cons.mp q).elim z.2.2.2.1 z.2.2.1) q
theorem SR.backF {h h' : Heap} {X' μ' : List Addr} (S : SR w base env X μ vs own h) (T : St (83 :: μ) X μ h X' μ' h') (hX : ∀ a ∈ X, a ∈ X') (C : Core w base X' μ' own' h') : SR w base env X' μ' vs own' h' := S.back' T S.sub83 S.locW S.not83 (hX _ S.locX) C
theorem SR.add {h : Heap} {o : Obj} {od : OD} (S : SR w base env X μ vs own h) (hget : (h.push o).get? h.objs.size = some o) (ho : OIs w (h.push o) (h.objs.size :: X) (μ ++ [h.objs.size]) h.objs.size od) :
    SR w base env (h.objs.size :: X) (μ ++ [h.objs.size]) vs (own ++ [od]) (h.push o) ∧ St (83 :: μ) X μ h (h.objs.size :: X) (μ ++ [h.objs.size]) (h.push o) :=
  have CT := S.core.take (fun _ _ e => Heap.get?_push_of_some _ e) (get?_size h) (Nat.le_of_lt S.big) hget ho
  ⟨S.backF CT.2 (fun _ => List.mem_cons_of_mem _) CT.1, CT.2⟩
theorem at_end {α β : Type} {l : List α} {m : List β} (h : l.length = m.length) (a : α) : (l ++ [a])[m.length]? = some a := by rw [← h, List.getElem?_append_right (Nat.le_refl _), Nat.sub_self]; rfl
theorem vr_new {h : Heap} (S : SR w base env X μ vs own h) {h' : Heap} {X' : List Addr} : VR w h' X' (μ ++ [h.objs.size]) (.loc own.length) (.ref h.objs.size) := .loc (at_end S.own.length _)

structure SF (w : World) (base : Heap) (n : Nat) (f : AV → List AV → Own → Option (AV × Own)) : Prop where
  ok : ∀ {X μ : List Addr} {g : AV} {ds : List AV} {own : Own} {d : AV} {own' : Own} {v : Value} {us : List Value} {A : Around} {s : Shared}, f g ds own = some (d, own') → Room A n → Core w base X μ own s.heap → VR w s.heap X μ g v → VRs w s.heap X μ ds us →
    wpAny (model P0 w) A (call v us []) (AftK w base X μ s own' d) noE s

theorem ev_fresh {R : Rec} (G : Gd w base mg mb) (hE : SE w base n R.e) (hC : SF w base n R.fresh) (hK : CalS w R.fresh) (ok : EnvOk env) (hA : Room A n) {f : Str} {p pos : Pos} {args : List Expr} {g d : AV} {ds : List AV} {own₁ own₂ : Own}
    (h1 : R.e env.scope vs own (.Name f p) = some (g, own₁)) (h2 : R.es env.scope vs own₁ args = some (ds, own₂)) (h3 : R.fresh g ds own₂ = some (d, own')) (S : SR w base env X μ vs own s.heap) :
    wpAny (model P0 w) A (eval (.Call (.Name f p) args [] pos) env) (AftE w base env X μ vs s own' d) noE s := by
  have hst := star_none h2 env pos
  refine wpAny_Call_NameR (then_E (hE.ok h1 ok hA S) fun v X₁ μ₁ k₁ tk₁ T₁ g₁ S₁ r₁ => ?_)
  refine callWith_of (P := HasKeeper w v) (by rw [hst]; rfl) (fun h z => z) ?_
  refine AftE.ofL hE ok hA (s := { s with heap := k₁, toks := tk₁ }) h2 S₁ fun us s₂ q => q.casesOn fun X₂ μ₂ k₂ tk₂ e T₂ g₂ S₂ r₂ => ?_
  subst e
  have r₁' := T₂.vr S₁.sub83 r₁
  exact ⟨keeper_of G S₂.stays r₁' (hK.ok h3), wm (hC.ok (s := { s with heap := k₂, toks := tk₂ }) h3 hA S₂.core r₁' r₂) fun v₃ s₃ z => z.casesOn fun X₃ μ₃ h' tk e T g₃ C r =>
    AftE.from T₁ g₁ (AftE.from (s := { s with heap := k₁, toks := tk₁ }) T₂ g₂ ⟨X₃, μ₃, h', tk, e, T, g₃, S₂.backF T g₃ C, r⟩)⟩

theorem ev_one (G : Gd w base mg mb) {x : Str} {p p' pos : Pos} {k : Nat} {i : Int} (h : evName env.scope vs x = some (.int i)) (ok : EnvOk env) (S : SR w base env X μ vs own s.heap) :
    wpAny (model P0 w) A (eval (.Dict [some (.Name x p)] [.Constant (.bool true) k p'] pos) env) (AftE w base env X μ vs s (own ++ [.one i]) (.loc own.length)) noE s := by
  have hget : (s.heap.push { cls := .type "dict", data := .dict #[] }).get? s.heap.objs.size = some { cls := .type "dict", data := .dict #[] } := Heap.get?_push_size _ rfl
  obtain ⟨S₀, T₀⟩ := S.add hget (od := .dct []) (.dct (Heap.DictOfH.new s.heap) .nil)
  have hat : (μ ++ [s.heap.objs.size])[own.length]? = some s.heap.objs.size := at_end S.own.length _
  refine wpAny_Dict_pairs (knd := intKind P0 w) (pairs := [(eval (.Name x p) env, do let x ← eval (.Constant (.bool true) k p') env; standAt pos; pure x)]) rfl (by simp) (by simp) ?_
  refine evalPairs_cons ?_
  refine then_E (s := { s with heap := s.heap.push { cls := .type "dict", data := .dict #[] } }) (ev_name G h ok S₀) fun v X₁ μ₁ k₁ tk₁ T₁ g₁ S₁ r₁ => r₁.intI fun t => ?_
  show wpAny _ A (eval (.Constant (.bool true) k p') env >>= _) _ _ _
  refine wpAny_bind (wpAny_pure (wpAny_bind (wpAny_standAt (wpAny_pure (evalPairs_nil ?_)))))
  have hat₁ : μ₁[own.length]? = some s.heap.objs.size := T₁.pre.elim fun ν e => e.1 ▸ (List.getElem?_append_left (by rw [List.length_append, S.own.length]; exact Nat.lt_succ_self _)).trans hat
  have hm : k₁.DictOf (intKind P0 w) s.heap.objs.size [] := (S₁.own.get (at_end rfl _ : (own ++ [OD.dct []])[own.length]? = _)).elim fun a q => so (q.1.symm.trans hat₁) (M := fun a => k₁.DictOf (intKind P0 w) a []) (Exists.elim q.2.ow fun xs z => DictOfH.nil z.1 z.2)
  refine ⟨[(i, .bool true)], ⟨by simp [intKind, Value.isInt], rfl, trivial⟩, hm, fun h' hm' hs' => ?_⟩
  obtain ⟨S₃, T₃⟩ := S₁.setOwn hat₁ (fun b o q e => hs'.extBut b o q e) (hm'.imp fun _ r => r.elim fun _ r => r.elim fun _ r => r.1) (.one (by simpa [merged, stored] using hm'))
  rw [show (own ++ [OD.dct []]).set own.length (.one i) = own ++ [.one i] by simp] at S₃
  exact ⟨X₁, μ₁, h', _, rfl, (T₀.trans83 T₁).trans83 T₃, fun a ha => g₁ a (List.mem_cons_of_mem _ ha), S₃, .loc hat₁⟩

theorem rhs_list {R : Rec} (hE : SE w base n R.e) (ok : EnvOk env) (hA : Room A n) {es : List Expr} {pos : Pos} {ds : List AV} (hl : es.length ≤ 1000) (h1 : R.es env.scope vs own es = some (ds, own')) (S : SR w base env X μ vs own s.heap) :
    wpAny (model P0 w) A (eval (.List es pos) env) (AftE w base env X μ vs s (own' ++ [.lst ds]) (.loc own'.length)) noE s := by
  refine wpAny_List (wm (ev_es hE ok hA pos h1 S) fun us s₂ q => q.casesOn fun X₂ μ₂ h₂ tk₂ e T₂ g₂ S₂ r₂ => e ▸ ⟨small_size (r₂.length.trans (Rec.es_length h1)) hl, AftE.from (tk₁ := tk₂) T₂ g₂ ?_⟩)
  have hget : (h₂.push { cls := .type "list", data := .seq us.toArray }).get? h₂.objs.size = some { cls := .type "list", data := .seq us.toArray } := Heap.get?_push_size _ rfl
  obtain ⟨S₃, T₃⟩ := S₂.add hget (od := .lst ds) (.lst ⟨0, hget⟩ (r₂.mono (fun b o' e hb => ⟨fun q => (List.mem_cons.mp q).elim (fun q => nn ((get?_size h₂).symm.trans (q ▸ e))) hb, Heap.get?_push_of_some _ e⟩) ⟨_, rfl⟩))
  exact ⟨_, _, _, tk₂, rfl, T₃, fun a ha => List.mem_cons_of_mem _ ha, S₃, vr_new S₂⟩
theorem rhs_dict (G : Gd w base mg mb) (ok : EnvOk env) {ks : List (Option Expr)} {ws : List Expr} {pos : Pos} {d : AV} (h : rDict env.scope vs own ks ws = some (d, own')) (S : SR w base env X μ vs own s.heap) :
    wpAny (model P0 w) A (eval (.Dict ks ws pos) env) (AftE w base env X μ vs s own' d) noE s := by
  refine ite_any h (fun hc h => sp h ?a) fun _ h => ?b
  case a =>
    rw [List.isEmpty_iff.mp (Bool.and_eq_true_iff.mp hc).1, List.isEmpty_iff.mp (Bool.and_eq_true_iff.mp hc).2]
    obtain ⟨S₃, T₃⟩ := S.add (Heap.get?_push_size _ rfl) (od := .dct []) (.dct (Heap.DictOfH.new s.heap) .nil)
    exact wpAny_Dict_empty ⟨_, _, _, s.toks, rfl, T₃, fun a ha => List.mem_cons_of_mem _ ha, S₃, vr_new S⟩
  case b =>
    refine bind_any h fun k h1 h => bind_any h fun k' h2 h => bind_any h fun x h3 h => bind_any h fun v h4 h => ite_then h fun hc h => bind_any h fun i h5 h => mp h fun j h6 => ?_
    obtain ⟨c, h7, h8⟩ := opt_any hc
    obtain ⟨k₁, p₁, e⟩ := ct?_is h7
    rw [one?_is h1, one?_is h4, h2, nm?_is h3, e, eq_of_beq h8]
    exact ev_one G (in?_is h6 ▸ h5) ok S
theorem ev_rhs {R : Rec} (G : Gd w base mg mb) (hF : SF w base n R.fresh) (hKF : CalS w R.fresh) (hE : SE w base n R.e) (ok : EnvOk env) (hA : Room A n) {e : Expr} {d : AV} (h : R.rhs env.scope vs own e = some (d, own')) (S : SR w base env X μ vs own s.heap) :
    wpAny (model P0 w) A (eval e env) (AftE w base env X μ vs s own' d) noE s := by
  unfold Rec.rhs at h
  cases q : ls? e with
  | some es =>
    rw [q] at h
    obtain ⟨pos, e⟩ := ls?_is q
    rw [e]
    exact ite_then h fun hl h => mp h fun r h1 => rhs_list hE ok hA hl h1 S
  | none =>
    rw [q] at h
    cases q : dc? e with
    | some r =>
      rw [q] at h
      obtain ⟨pos, e⟩ := dc?_is q
      rw [e]
      exact rhs_dict G ok h S
    | none =>
      rw [q] at h
      cases q : frCall env.scope vs e with
      | some r =>
        rw [q] at h
        refine bind_any q fun c h1 q => bind_any q fun f h2 q => ite_then q fun hc q => ?_
        rw [← Option.some.inj q] at h
        refine bind_two h fun g own₁ h3 k1 => bind_two k1 fun ds own₂ h4 k2 => ?_
        rw [cl?_is h1, List.isEmpty_iff.mp (Bool.and_eq_true_iff.mp hc).1]
        rw [nm?_is h2] at h3 ⊢
        exact ev_fresh G hE hF hKF ok hA h3 h4 k2 S
      | none =>
        rw [q] at h
        exact hE.ok h ok hA S

theorem ev_rhss {R : Rec} (G : Gd w base mg mb) (hF : SF w base n R.fresh) (hKF : CalS w R.fresh) (hE : SE w base n R.e) (ok : EnvOk env) (hA : Room A n) (pos : Pos) {es : List Expr} {X μ : List Addr} {own : Own} {s : Shared} {ds : List AV} {own' : Own} (h : R.rhss env.scope vs own es = some (ds, own')) (S : SR w base env X μ vs own s.heap) :
    wpAny (model P0 w) A (spliced (backTo pos (starEach es env))) (AftL w base env X μ vs s own' ds) noE s := by
  exact ev_es (R := { R with e := R.rhs }) ⟨fun h ok hA S => ev_rhs G hF hKF hE ok hA h S⟩ ok hA pos h S

theorem VRt.put {h : Heap} {xs : List (Ty × Addr × Value)} {kvs : List (Ty × AV)} {t : Ty} {v : Value} {d : AV} (r : VRt w h X μ xs kvs) (hv : VR w h X μ d v) : VRt w h X μ (xs.map fun x => putAt t v x) (kvs.map fun kv => if kv.1 = t then (t, d) else kv) := by
  induction r with
  | nil => exact .nil
  | @cons t' a u d' xs kvs ra rv r ih =>
    by_cases q : t' = t
    · rw [List.map_cons, List.map_cons, show putAt t v (t', a, u) = (t', a, v) from if_pos q, if_pos q]
      subst q
      exact .cons ra hv ih
    · rw [List.map_cons, List.map_cons, show putAt t v (t', a, u) = (t', a, u) from if_neg q, if_neg q]
      exact .cons ra rv ih
theorem VRt.snoc {h : Heap} {xs : List (Ty × Addr × Value)} {kvs : List (Ty × AV)} {t : Ty} {ka : Addr} {v : Value} {d : AV} (r : VRt w h X μ xs kvs) (hk : VR w h X μ (enc t) (.ref ka)) (hv : VR w h X μ d v) : VRt w h X μ (xs ++ [(t, ka, v)]) (kvs ++ [(t, d)]) := by
  induction r with
  | nil => exact .cons hk hv .nil
  | cons ra rv _ ih => exact .cons ra rv ih
theorem VRt.stored {h : Heap} {xs : List (Ty × Addr × Value)} {kvs : List (Ty × AV)} {t : Ty} {ka : Addr} {v : Value} {d : AV} (r : VRt w h X μ xs kvs) (hk : VR w h X μ (enc t) (.ref ka)) (hv : VR w h X μ d v) :
    VRt w h X μ (storedH xs t ka v) (if hasKey kvs t then kvs.map fun kv => if kv.1 = t then (t, d) else kv else kvs ++ [(t, d)]) := by
  unfold storedH
  rw [(r.at t).2]
  by_cases q : hasKey kvs t = true
  · rw [if_pos q, if_pos q]; exact r.put hv
  · rw [if_neg q, if_neg q]; exact r.snoc hk hv

theorem VRk.any {h : Heap} {xs : List (Str × Value)} {kvs : List (Str × AV)} (r : VRk w h X μ kvs xs) (x : Str) : xs.any (fun kv => kv.1 = x) = (kvs.lookup x).isSome := by
  induction kvs generalizing xs with
  | nil => exact r.nilI rfl
  | cons k kvs ih =>
    obtain ⟨y, d⟩ := k
    refine r.consI fun v es rv r' => ?_
    rw [List.any_cons, ih r']
    by_cases e : x = y
    · rw [e, lookup_self]; exact Bool.or_eq_true_iff.mpr (.inl (decide_eq_true rfl))
    · rw [lookup_ne e]; exact (congrArg (· || _) (decide_eq_false fun q => e q.symm)).trans (Bool.false_or _)
theorem VRk.put {h : Heap} {xs : List (Str × Value)} {kvs : List (Str × AV)} {x : Str} {v : Value} {d : AV} (r : VRk w h X μ kvs xs) (hv : VR w h X μ d v) : VRk w h X μ (kvs.map fun kv => if kv.1 = x then (kv.1, d) else kv) (xs.map fun kv => if kv.1 = x then (kv.1, v) else kv) := by
  induction kvs generalizing xs with
  | nil => exact r.nilI .nil
  | cons k kvs ih =>
    refine r.consI fun u es rv r' => ?_
    rw [List.map_cons, List.map_cons]
    by_cases q : k.1 = x
    · rw [if_pos q, if_pos q]; exact .cons hv (ih r')
    · rw [if_neg q, if_neg q]; exact .cons rv (ih r')
theorem VRk.snoc {h : Heap} {xs : List (Str × Value)} {kvs : List (Str × AV)} {x : Str} {v : Value} {d : AV} (r : VRk w h X μ kvs xs) (hv : VR w h X μ d v) : VRk w h X μ (kvs ++ [(x, d)]) (xs ++ [(x, v)]) := by
  induction kvs generalizing xs with
  | nil => exact r.nilI (.cons hv .nil)
  | cons k kvs ih => exact r.consI fun u es rv r' => .cons rv (ih r')
theorem VRk.stored {h : Heap} {xs : List (Str × Value)} {kvs : List (Str × AV)} {x : Str} {v : Value} {d : AV} (r : VRk w h X μ kvs xs) (hv : VR w h X μ d v) :
    VRk w h X μ (if (kvs.lookup x).isSome then kvs.map fun kv => if kv.1 = x then (kv.1, d) else kv else kvs ++ [(x, d)]) (PySem.stored xs x v) := by
  unfold PySem.stored
  rw [r.any x]
  by_cases q : (kvs.lookup x).isSome = true
  · rw [if_pos q, if_pos q]; exact r.put hv
  · rw [if_neg q, if_neg q]; exact r.snoc hv
theorem VRk.length {h : Heap} {xs : List (Str × Value)} {kvs : List (Str × AV)} (r : VRk w h X μ kvs xs) : xs.length = kvs.length := by
  induction kvs generalizing xs with
  | nil => exact r.nilI rfl
  | cons k kvs ih => exact r.consI fun _ _ _ r => congrArg (· + 1) (ih r)

theorem VRs.set {h : Heap} {us : List Value} {ds : List AV} {v : Value} {d : AV} (r : VRs w h X μ ds us) (hv : VR w h X μ d v) (i : Nat) : VRs w h X μ (ds.set i d) (us.set i v) := by
  induction ds generalizing us i with
  | nil => exact r.nilI .nil
  | cons e ds ih =>
    refine r.consI fun u us a r => ?_
    cases i with
    | zero => exact .cons hv r
    | succ i => exact .cons a (ih r i)

theorem AftV.ofSR {h' : Heap} {tk : Tok} (S : SRs w base env X μ vs own s.heap) (T : St (83 :: μ) X μ s.heap X μ h') (S' : SR w base env X μ vs own' h') : AftV w base env X μ s vs own' { s with heap := h', toks := tk } :=
  ⟨X, μ, h', tk, rfl, T.wider sub_WS, fun _ e => e, S.ofE T (fun _ e => e) S'⟩
theorem AftV.from {X₁ μ₁ : List Addr} {h₁ : Heap} {tk₁ : Tok} {vs' : Vars} {s' : Shared} (T : St (WS env μ) X μ s.heap X₁ μ₁ h₁) (g : ∀ a ∈ X, a ∈ X₁) (a : AftV w base env X₁ μ₁ { s with heap := h₁, toks := tk₁ } vs' own' s') :
    AftV w base env X μ s vs' own' s' := a.casesOn fun X' μ' h' tk e T' g' S' => ⟨X', μ', h', tk, e, T.transW T', fun a ha => g' a (g a ha), S'⟩

theorem setItem_upd {l : Addr} {items : Array Value} {k : Int} {c : Nat} {t : Tok} {v : Value} {Q : Unit → Shared → Prop} (ho : s.heap.get? l = some { cls := .type "list", data := .seq items c }) (h0 : 0 ≤ k) (hfit : k < 2 ^ 63) (hn : k < items.size)
    (hQ : Q () { s with heap := s.heap.update l (Obj.mapSeq (·.setIfInBounds k.toNat v)) }) : wpAny (model P0 w) A (setItem (.ref l) (.int k t) v) Q noE s := by
  have hl : s.heap.IsList l items := ⟨_, ho, rfl, c, rfl⟩
  unfold setItem
  try with_reducible refine wpAny_holding ?_
  first | refine wpAny_bind (wpAny_pure ?_) | skip
  refine wpAny_bind (wpAny_sequenceKey hl.typeIs (by decide) ?_)
  refine wpAny_bind (wpAny_callSpecial?_slot (name := Str.ofString "__setitem__") hl.typeIs slot_list_setitem
    (wpAny_call_entry slot_list_setitem hl.typeIs entry_list_setitem ?_ (args_list_setitem _ _ _)))
  show wpAny _ _ (Builtin.List.listSubscript? (.int k t) >>= _) _ _ s
  refine wpAny_bind (wpAny_listSubscript_int (fitsIndex_of h0 hfit) ?_)
  clear hfit
  obtain ⟨j, rfl⟩ := Int.eq_ofNat_of_zero_le h0
  have hj : j < items.size := by omega
  have hx' : items[j]? = some items[j] := Array.getElem?_eq_getElem hj
  show wpAny _ _ ((seqItemAt l j >>= fun r => pure (r.map (j, ·))) >>= _) _ _ s
  refine wpAny_bind (wpAny_bind (wpAny_seqItemAt ho rfl (wpAny_pure ?_)))
  rw [hx']
  show wpAny _ _ (setSeqItemAt l j v >>= _) _ _ s
  refine wpAny_bind (wpAny_setSeqItemAt ho rfl ?_)
  first
    | exact wpAny_bind (wpAny_pure (wpAny_pure ⟨.none, rfl, wpAny_pure hQ⟩))
    | exact wpAny_pure ⟨.none, rfl, wpAny_pure hQ⟩

theorem st_sput {xs : List (Str × Value)} {kvs : List (Str × AV)} {x : Str} {a : Addr} {j : Nat} {iv v : Value} {d : AV} (S : SRs w base env X μ vs own s.heap) (hX : a ∈ X) (hi : μ[j]? = some a) (hd : s.heap.DictOf (PySem.strKind P0 w) a xs) (hs : VRk w s.heap X μ kvs xs) (hsz : kvs.length ≤ 100000) (rx : VR w s.heap X μ (.str x) iv) (rv : VR w s.heap X μ d v) :
    wpAny (model P0 w) A (setItem (.ref a) iv v) (fun _ s' => AftV w base env X μ s vs (own.set j (.sdct (if (kvs.lookup x).isSome then kvs.map fun kv => if kv.1 = x then (kv.1, d) else kv else kvs ++ [(x, d)]))) s') noE s := by
  refine rx.strI fun t => wpAny_setItem_pairs (knd := PySem.strKind P0 w) (k := x) (by simp [PySem.strKind, Value.isStrOf]) hd (fun h' hd' hsb => ?_) (by rw [hs.length, sizeLine_is]; omega)
  have hk' : ∀ b o, b ≠ a → s.heap.get? b = some o → h'.get? b = some o := fun b o q e => hsb.extBut b o q e
  obtain ⟨S₃, T₃⟩ := S.sr.setOwn hi hk' (hd'.imp fun _ r => r.elim fun _ r => r.elim fun _ r => r.1) (.sdct hd' ((hs.stored (x := x) rv).mono (fun b o e hb => ⟨hb, hk' b o (fun q => hb (q ▸ hX)) e⟩) ⟨[], (List.append_nil _).symm⟩))
  exact AftV.ofSR S T₃ S₃
theorem st_hput {xs : List (Ty × Addr × Value)} {kvs : List (Ty × AV)} {t : Ty} {a : Addr} {j : Nat} {iv v : Value} {d : AV} (hA : Room A n) (S : SRs w base env X μ vs own s.heap) (hX : a ∈ X) (hi : μ[j]? = some a) (hd : s.heap.DictOfH (tyKind w) a xs) (hs : VRt w s.heap X μ xs kvs) (hsz : kvs.length ≤ 100000) (rk : VR w s.heap X μ (enc t) iv) (rv : VR w s.heap X μ d v) :
    wpAny (model P0 w) A (setItem (.ref a) iv v) (fun _ s' => AftV w base env X μ s vs (own.set j (.dct (if hasKey kvs t then kvs.map fun kv => if kv.1 = t then (t, d) else kv else kvs ++ [(t, d)]))) s') noE s := by
  obtain ⟨zs, ez⟩ := enc_tup t
  obtain ⟨ka, _, e, _⟩ := (ez ▸ rk : VR w s.heap X μ (.tup zs) iv).vw
  subst e
  refine wpAny_setItem_heap (knd := tyKind w) (room_ty1 hA) (tyIs_of rk) hd (fun h' hd' hsb => ?_) (by rw [hs.length, sizeLine_is]; omega)
  have hk' : ∀ b o, b ≠ a → s.heap.get? b = some o → h'.get? b = some o := fun b o q e => hsb.extBut b o q e
  obtain ⟨S₃, T₃⟩ := S.sr.setOwn hi hk' (hd'.imp fun _ r => r.elim fun _ r => r.elim fun _ r => r.1) (.dct hd' ((hs.stored rk rv).mono (fun b o e hb => ⟨hb, hk' b o (fun q => hb (q ▸ hX)) e⟩) ⟨[], (List.append_nil _).symm⟩))
  exact AftV.ofSR S T₃ S₃
theorem st_item {ov iv v : Value} {j : Nat} {k d : AV} (hA : Room A n) (S : SRs w base env X μ vs own s.heap) (ra : VR w s.heap X μ (.loc j) ov) (rk : VR w s.heap X μ k iv) (rv : VR w s.heap X μ d v) (h : evStore own j k d = some own') :
    wpAny (model P0 w) A (setItem ov iv v) (fun _ s' => AftV w base env X μ s vs own' s') noE s := by
  refine bind_any h fun o q h => mo h fun o' h => own_at S.sr ra q fun a hX hi z => ?_
  cases o with
  | dct kvs =>
    refine Exists.elim z fun xs z => ?_
    unfold storeOD at h
    dsimp only at h
    cases q1 : (if kvs.isEmpty then st? k else none) with
    | some x =>
      rw [q1] at h
      refine ite_then q1 fun hc q1 => so h ?_
      rw [List.isEmpty_iff.mp hc] at z
      rw [st?_is q1] at rk
      exact st_sput S hX hi (DictOfH.nil z.1 z.2) .nil (Nat.zero_le _) rk rv
    | none =>
      rw [q1] at h
      exact bind_any h fun t e1 e2 => ite_then e2 fun hsz e2 => so e2 (st_hput hA S hX hi z.1 z.2 hsz (vr_dec e1 rk) rv)
  | sdct kvs =>
    refine bind_any h fun x h1 h => ite_then h fun hsz h => so h (Exists.elim z fun xs z => ?_)
    rw [st?_is h1] at rk
    exact st_sput S hX hi z.1 z.2 hsz rk rv
  | lst xs =>
    refine bind_any h fun m h1 h => ite_then h fun hn h => so h (Exists.elim z fun us z => ?_)
    rw [(ix?_is h1).2] at rk
    refine rk.intI fun t => z.1.elim fun c ho => setItem_upd ho (ix_lo m) (ix_hi (ix?_is h1).1) (Int.ofNat_lt.mpr (z.2.size ▸ hn)) ?_
    obtain ⟨S₃, T₃⟩ := S.sr.setLst (xs := xs) (xs' := xs.set m d) (f := fun xs => xs.setIfInBounds m v) hi z.1 rfl (by rw [Array.toList_setIfInBounds]; exact z.2.set rv m)
    exact AftV.ofSR S T₃ S₃
  | _ => exact nn h

theorem ev_put {R : Rec} (hE : SE w base n R.e) (ok : EnvOk env) (hA : Room A n) {t : Expr} {v : Value} {d : AV} {vs' : Vars} (h : R.put env.scope vs own t d = some (vs', own')) (S : SRs w base env X μ vs own s.heap) (r : VR w s.heap X μ d v) :
    wpAny (model P0 w) A (assign t env v) (fun _ s' => AftV w base env X μ s vs' own' s') noE s := by
  unfold Rec.put at h
  cases q : nm? t with
  | some x =>
    rw [q] at h
    rw [nm?_is q]
    exact ite_then h fun hk h => sp h (and_is hk fun k1 k2 => wpAny_assign_Name (wm (S.store ok k1 k2 r) fun _ s' q => q.casesOn fun h' tk e T S' => ⟨X, μ, h', tk, e, T, fun _ e => e, S'⟩))
  | none =>
    rw [q] at h
    refine bind_any h fun oi h0 h => ite_then h fun _ h => bind_two h fun oa own₁ h1 h => bind_any h fun j hj h => bind_two h fun ka own₂ h3 h => mp h fun own₃ h5 => ?_
    obtain ⟨p, e⟩ := su?_is h0
    rw [e, assign_Subscript]
    refine wpAny_bind (wpAny_holding (then_E (hE.ok h1 ok hA S.sr) fun ov X₁ μ₁ k₁ tk₁ T₁ g₁ S₁ r₁ => ?_))
    rw [show oa = .loc j from lo?_is hj] at r₁
    refine wpAny_bind (wpAny_holding (then_E (hE.ok (s := { s with heap := k₁, toks := tk₁ }) h3 ok hA S₁) fun iv X₂ μ₂ k₂ tk₂ T₂ g₂ S₂ r₂ => ?_))
    refine wpAny_bind (wpAny_standAt (wpAny_bind (wpAny_holding ?_)))
    have T12 := T₁.trans83 T₂
    have g12 : ∀ a ∈ X, a ∈ X₂ := fun a ha => g₂ a (g₁ a ha)
    exact wm (st_item (s := { s with heap := k₂, toks := tk₂ }) hA (S.ofE T12 g12 S₂) (T₂.vr S₁.sub83 r₁) r₂ (T12.vr S.sr.sub83 r) h5) fun _ s' z => wpAny_release (AftV.from (tk₁ := tk₂) (T12.wider sub_WS) g12 z)
end

noncomputable def noC (o : Obj) : Prop := ∀ v, o.data ≠ .cell v

noncomputable def itO (o : Obj) : Prop := ∃ n vs, o.cls = .type n ∧ o.data = .fields vs ∧ (n = "list_iterator" ∨ n = "tuple_iterator" ∨ n = "range_iterator")
theorem itO.noC {o : Obj} (h : itO o) : noC o := fun v e => h.elim fun _ h => h.elim fun _ h => Data.noConfusion (h.2.1.symm.trans e)
theorem itO.go {prog : Program} {w : World} {A : Around} {s : Shared} {E : Value → Shared → Prop} {target : Expr} {I : Addr} {o : Obj} {v : Value} {Q : Unit → Shared → Prop} (x : itO o) (ho : s.heap.get? I = some o) (h : Q () s) : wpAny (model prog w) A (letOwnedTupleGo target (.ref I) v) Q E s := by
  obtain ⟨n, vs, hc, hd, hn⟩ := x
  unfold letOwnedTupleGo
  cases target <;> first
    | exact wpAny_pure h
    | (cases v <;> first
        | exact wpAny_pure h
        | (refine wpAny_bind (wpAny_load ho ?_)
           rw [hc, hd]
           rcases hn with rfl | rfl | rfl <;> exact wpAny_pure h))

section
variable {w : World} {base : Heap} {mg mb : Str → Option Value} {env : Env} {X μ : List Addr} {vs : Vars} {own own' : Own} {A : Around} {s : Shared} {n : Nat}

noncomputable abbrev rmv (I : Addr) (X : List Addr) : List Addr := X.filter fun a => decide (a ≠ I)
theorem mem_rmv {I b : Addr} {X : List Addr} (hb : b ∈ X) (hn : b ≠ I) : b ∈ rmv I X := List.mem_filter.mpr ⟨hb, decide_eq_true hn⟩
theorem of_rmv {I b : Addr} {X : List Addr} (h : b ∈ rmv I X) : b ∈ X ∧ b ≠ I := (List.mem_filter.mp h).imp id of_decide_eq_true
theorem Core.drop {h h' : Heap} {I : Addr} (C : Core w base X μ own h) (hk : ∀ b o, b ≠ I → h.get? b = some o → h'.get? b = some o) (hX : I ∈ X) (hμ : I ∉ μ) (h83 : I ≠ 83) :
    Core w base (rmv I X) μ own h' ∧ ∀ b o, h.get? b = some o → b ∉ X → b ∉ rmv I X ∧ h'.get? b = some o :=
  have hk2 : ∀ b o, h.get? b = some o → b ∉ X → b ∉ rmv I X ∧ h'.get? b = some o := fun b o e hb => ⟨fun q => hb (of_rmv q).1, hk b o (fun q => hb (q ▸ hX)) e⟩
  ⟨⟨fun b o e => hk b o (fun q => nn ((C.baseX I hX).1.symm.trans (q ▸ e))) (C.stays b o e), fun b hb => ⟨(C.baseX b (of_rmv hb).1).1, (C.baseX b (of_rmv hb).1).2.1, (C.has (of_rmv hb).1).imp fun o => hk b o (of_rmv hb).2⟩, mem_rmv C.tabX (fun q => h83 q.symm), C.tab.mono hk2 fun o e => hk _ o (fun q => h83 q.symm) e,
    C.own.mono hk2 ⟨[], (List.append_nil _).symm⟩ fun b hb o e => hk b o (fun q => hμ (q ▸ hb)) e, fun b hb => mem_rmv (C.subμ b hb) fun q => hμ (q ▸ hb), C.apart⟩, hk2⟩

theorem SRs.ofT {W X' μ' : List Addr} {h h' : Heap} (S : SRs w base env X μ vs own h) (T : St W X μ h X' μ' h') (hc : ∀ x c, env.cells.lookup x = some c → c ∉ W) (g : noClo vs = true → ∀ x c, env.cells.lookup x = some c → c ∈ X → c ∈ X') (S' : SR w base env X' μ' vs own' h') : SRs w base env X' μ' vs own' h' :=
  ⟨S', fun q x c e => g q x c e (S.cin q x c e), fun x c e => T.cell (S.cat x c e) (hc x c e), S.cinj, S.cmem⟩

structure Wk (w : World) (A : Around) (L : Addr) (X μ : List Addr) (h : Heap) (I : Addr) (ds : List AV) (i : Nat) (fp : List Addr) (P : Nat → Value → Prop) (Q : Nat → Heap → Prop) : Prop where
  walks : Walks P0 w A I fp [I] ds.length P Q
  at_ : Q i h
  ex : ∀ j h, Q j h → ∃ o, h.get? I = some o ∧ itO o
  inX : I ∈ X
  off : ∀ b ∈ fp, b ∉ μ ∧ b ≠ 83 ∧ b ≠ L ∧ ∃ o, h.get? b = some o ∧ noC o
  items : ∀ j v, j < ds.length → P j v → ∃ d, ds[j]? = some d ∧ VR w h X μ d v

theorem Wk.mem {L I : Addr} {h : Heap} {ds : List AV} {i : Nat} {fp : List Addr} {P : Nat → Value → Prop} {Q : Nat → Heap → Prop} (K : Wk w A L X μ h I ds i fp P Q) : I ∈ fp := K.walks.sub I (List.mem_singleton.mpr rfl)

theorem Wk.step {L I : Addr} {h h' : Heap} {ds : List AV} {i : Nat} {fp W X' μ' : List Addr} {P : Nat → Value → Prop} {Q : Nat → Heap → Prop} (K : Wk w A L X μ h I ds i fp P Q) (T : St W X μ h X' μ' h') (hW : ∀ a ∈ W, a ∈ X) (hfp : ∀ b ∈ fp, b ∉ W) (hI : I ∈ X') :
    Wk w A L X' μ' h' I ds i fp P Q :=
  ⟨K.walks, K.walks.frame _ _ _ K.at_ fun b hb o e => T.keep b o e (hfp b hb), K.ex, hI, fun b hb => ⟨T.off ((K.off b hb).2.2.2.imp fun _ r => r.1) (K.off b hb).1, (K.off b hb).2.1, (K.off b hb).2.2.1, (K.off b hb).2.2.2.imp fun o r => ⟨T.keep b o r.1 (hfp b hb), r.2⟩⟩, fun j v hj hp => (K.items j v hj hp).imp fun d r => ⟨r.1, T.vr hW r.2⟩⟩

theorem Wk.next {L I : Addr} {ds : List AV} {i : Nat} {fp : List Addr} {P : Nat → Value → Prop} {Qs : Nat → Heap → Prop} {E : Value → Shared → Prop} {Q : Option Value → Shared → Prop} (K : Wk w A L X μ s.heap I ds i fp P Qs) (C : Core w base X μ own s.heap) (hi : i ≤ ds.length)
    (h1 : ∀ v d h' tk, ds[i]? = some d → VR w h' X μ d v → Wk w A L X μ h' I ds (i + 1) fp P Qs → Core w base X μ own h' → (∀ b o, b ≠ I → s.heap.get? b = some o → h'.get? b = some o) → (∃ o, h'.get? I = some o ∧ itO o) → Q (some v) { s with heap := h', toks := tk })
    (h2 : ds.length = i → ∀ h' tk, (∀ b o, b ≠ I → s.heap.get? b = some o → h'.get? b = some o) → Q none { s with heap := h', toks := tk }) : wpAny (model P0 w) A (pyNext (.ref I)) Q E s := by
  have off := K.off I K.mem
  have wX : ∀ a ∈ [I], a ∈ X := fun a ha => List.mem_singleton.mp ha ▸ K.inX
  refine (Nat.lt_or_ge i ds.length).elim (fun hlt => K.walks.item i s Q E hlt K.at_ fun v h' tk hp hst hk => ?_) fun hge => ?_
  · have hk' : ∀ b o, b ≠ I → s.heap.get? b = some o → h'.get? b = some o := fun b o q e => hk b o (fun z => q (List.mem_singleton.mp z)) e
    obtain ⟨o, ho, hn⟩ := K.ex _ _ hst
    obtain ⟨C', T⟩ := C.touch hk' K.inX off.1 off.2.1 ⟨o, ho⟩
    have T := T [I] (List.mem_singleton.mpr rfl)
    refine (K.items i v hlt hp).elim fun d q => h1 v d h' tk q.1 (T.vr wX q.2) ⟨K.walks, hst, K.ex, K.inX, fun b hb => ⟨(K.off b hb).1, (K.off b hb).2.1, (K.off b hb).2.2.1, (Decidable.em (b = I)).elim (fun q => q ▸ ⟨o, ho, hn.noC⟩) fun q => (K.off b hb).2.2.2.imp fun ob r => ⟨hk' b ob q r.1, r.2⟩⟩, fun j u hj hp => (K.items j u hj hp).imp fun d r => ⟨r.1, T.vr wX r.2⟩⟩ C' hk' ⟨o, ho, hn⟩
  · have e : ds.length = i := Nat.le_antisymm hge hi
    exact K.walks.done s Q E (e ▸ K.at_) fun h' tk hk => h2 e h' tk fun b o q e => hk b o (fun z => q (List.mem_singleton.mp z)) e
end

section
variable {w : World} {base : Heap} {mg mb : Str → Option Value} {env : Env} {X μ : List Addr} {vs : Vars} {own own' : Own} {A : Around} {s : Shared} {n : Nat}

inductive AftI (w : World) (base : Heap) (env : Env) (X μ : List Addr) (A : Around) (vs : Vars) (s : Shared) (own' : Own) (ds : List AV) (it : Value) (s' : Shared) : Prop
  | mk (I : Addr) (fp : List Addr) (P : Nat → Value → Prop) (Q : Nat → Heap → Prop) (X' μ' : List Addr) (h' : Heap) (tk : Tok) (ei : it = .ref I) (e : s' = { s with heap := h', toks := tk }) (T : St (83 :: μ) X μ s.heap X' μ' h') (g : ∀ a ∈ X, a ∈ X') (S : SR w base env X' μ' vs own' h') (K : Wk w A env.locals X' μ' h' I ds 0 fp P Q) (hn : s.heap.get? I = none)

theorem SR.addX {h h' : Heap} {I : Addr} (S : SR w base env X μ vs own h) (hk : ∀ b o, h.get? b = some o → h'.get? b = some o) (hn : h.get? I = none) (h83 : 83 ≤ I) (he : ∃ o, h'.get? I = some o) :
    SR w base env (I :: X) μ vs own h' ∧ St (83 :: μ) X μ h (I :: X) μ h' :=
  have CT := S.core.addX hk hn h83 he
  ⟨S.backF (CT.2 _) (fun _ => List.mem_cons_of_mem _) CT.1, CT.2 _⟩

theorem AftI.from {X₁ μ₁ : List Addr} {h₁ : Heap} {tk₁ : Tok} {ds : List AV} {it : Value} {s' : Shared} (T : St (83 :: μ) X μ s.heap X₁ μ₁ h₁) (g : ∀ a ∈ X, a ∈ X₁) (a : AftI w base env X₁ μ₁ A vs { s with heap := h₁, toks := tk₁ } own' ds it s') :
    AftI w base env X μ A vs s own' ds it s' := a.casesOn fun I fp P Q X' μ' h' tk e1 e2 T' g' S' K hn => ⟨I, fp, P, Q, X', μ', h', tk, e1, e2, T.trans83 T', fun a ha => g' a (g a ha), S', K, T.live I hn⟩

theorem iter_new {ds : List AV} {oi : Obj} {fp : List Addr} {P : Nat → Value → Prop} {Q : Nat → Heap → Prop} (S : SR w base env X μ vs own s.heap) (hoi : (s.heap.push oi).get? s.heap.objs.size = some oi) (hni : noC oi) (W : Walks P0 w A s.heap.objs.size fp [s.heap.objs.size] ds.length P Q) (hq : Q 0 (s.heap.push oi))
    (hex : ∀ j h, Q j h → ∃ o, h.get? s.heap.objs.size = some o ∧ itO o) (hfp : ∀ b ∈ fp, b ≠ s.heap.objs.size → b ∉ X ∧ ∃ o, s.heap.get? b = some o ∧ noC o) (hp : ∀ j v, j < ds.length → P j v → ∃ d, ds[j]? = some d ∧ VR w s.heap X μ d v) :
    AftI w base env X μ A vs s own ds (.ref s.heap.objs.size) { s with heap := s.heap.push oi } :=
  have hnone := get?_size s.heap
  have memX : ∀ b ∈ X, b ≠ s.heap.objs.size := fun b hb q => (S.core.has hb).elim fun _ e => nn (hnone.symm.trans (q ▸ e))
  have ST := S.addX (fun b o e => Heap.get?_push_of_some _ e) hnone (Nat.le_of_lt S.big) ⟨_, hoi⟩
  ⟨_, _, _, _, _, _, _, s.toks, rfl, rfl, ST.2, fun _ => List.mem_cons_of_mem _, ST.1, ⟨W, hq, hex, List.mem_cons_self, fun b hb => (Decidable.em (b = s.heap.objs.size)).elim
    (fun q => q ▸ ⟨fun q => memX _ (S.subμ _ q) rfl, fun q => memX 83 S.tabX q.symm, fun q => memX _ S.locX q.symm, oi, hoi, hni⟩)
    fun q => ⟨fun z => (hfp b hb q).1 (S.subμ _ z), fun z => (hfp b hb q).1 (z ▸ S.tabX), fun z => (hfp b hb q).1 (z ▸ S.locX), (hfp b hb q).2.imp fun o r => ⟨Heap.get?_push_of_some _ r.1, r.2⟩⟩, fun j v hj z => (hp j v hj z).imp fun d r => ⟨r.1, ST.2.vr S.sub83 r.2⟩⟩, hnone⟩

theorem iter_seq {l : Addr} {us : Array Value} {ds : List AV} {o oi : Obj} {Q : Nat → Heap → Prop} (S : SR w base env X μ vs own s.heap) (hl : s.heap.get? l = some o) (hno : noC o) (hX : l ∉ X) (hs : VRs w s.heap X μ ds us.toList)
    (hoi : (s.heap.push oi).get? s.heap.objs.size = some oi) (hni : noC oi)
    (W : Walks P0 w A s.heap.objs.size [s.heap.objs.size, l] [s.heap.objs.size] us.size (fun i v => us[i]? = some v) Q) (hq : Q 0 (s.heap.push oi)) (hex : ∀ j h, Q j h → ∃ o, h.get? s.heap.objs.size = some o ∧ itO o) :
    AftI w base env X μ A vs s own ds (.ref s.heap.objs.size) { s with heap := s.heap.push oi } :=
  iter_new S hoi hni (hs.size ▸ W) hq hex (fun b hb q => (List.mem_cons.mp hb).elim (fun z => absurd z q) fun z => List.mem_singleton.mp z ▸ ⟨hX, o, hl, hno⟩) fun j v hj hp => (hs.get (List.getElem?_eq_getElem hj)).elim fun u r => ⟨_, List.getElem?_eq_getElem hj, (Option.some.inj (r.1.symm.trans (Array.getElem?_toList.trans hp)) : u = v) ▸ r.2⟩

theorem seq_noC {o : Obj} {us : Array Value} {k : Nat} (h : o.data = .seq us k) : noC o := fun _ e => Data.noConfusion (h.symm.trans e)
theorem fields_noC {o : Obj} {us : Array Value} (h : o.data = .fields us) : noC o := fun _ e => Data.noConfusion (h.symm.trans e)

theorem iter_of {d : AV} {v : Value} {ds : List AV} (hA : A.handled = none) (S : SR w base env X μ vs own s.heap) (r : VR w s.heap X μ d v) (h : seq? d = some ds) :
    wpAny (model P0 w) A (pyIter v) (AftI w base env X μ A vs s own ds) noE s := by
  have ex : ∀ {nm : String} {l : Addr} {j : Nat} {h : Heap}, (nm = "list_iterator" ∨ nm = "tuple_iterator" ∨ nm = "range_iterator") → (∃ o, h.get? s.heap.objs.size = some o ∧ o.cls = .type nm ∧ o.data = .fields #[.ref l, .int j 0]) → ∃ o, h.get? s.heap.objs.size = some o ∧ itO o := fun hn q => q.imp fun o q => ⟨q.1, _, _, q.2.1, q.2.2, hn⟩
  rcases seq?_is h with e | e <;> rw [e] at r
  · refine r.lstI fun l us hl hX hs => hl.elim fun k ho => wpAny_pyIter_list (PLst.is ⟨k, ho⟩) ?_
    exact iter_seq S ho (seq_noC rfl) hX hs (Heap.get?_push_size _ rfl) (fields_noC rfl) (Walks.list hA _ l (Nat.ne_of_lt (Heap.lt_size ho)) us) ⟨⟨_, Heap.get?_push_size _ rfl, rfl, rfl⟩, (PLst.is ⟨k, ho⟩).push _⟩ fun j h q => ex (.inl rfl) q.1
  · refine r.tupI fun l us hl hX hs => hl.elim fun k ho => wpAny_pyIter_tuple (PTup.is ⟨k, ho⟩) ?_
    exact iter_seq S ho (seq_noC rfl) hX hs (Heap.get?_push_size _ rfl) (fields_noC rfl) (Walks.tuple hA _ l (Nat.ne_of_lt (Heap.lt_size ho)) us) ⟨⟨_, Heap.get?_push_size _ rfl, rfl, rfl⟩, (PTup.is ⟨k, ho⟩).push _⟩ fun j h q => ex (.inr (.inl rfl)) q.1

theorem range_get (m j : Nat) (h : j < m) : (rangeItems m)[j]? = some (.int (Int.ofNat j)) := by
  unfold rangeItems
  rw [List.getElem?_map, List.getElem?_range h]
  rfl

theorem iter_range {r : Addr} {m : Nat} {t u v : Tok} (hA : A.handled = none) (hm : m ≤ 1000) (S : SR w base env X μ vs own s.heap) (hr : IsRange s.heap r 0 m 1 t u v) :
    wpAny (model P0 w) A (pyIter (.ref r)) (AftI w base env X μ A vs s own (rangeItems m)) noE s := by
  refine wpAny_pyIter_range hr (small_one (by decide) (by decide) (by omega) (by omega)) ?_
  have hsz : Builtin.Range.rangeSize 0 (m : Int) 1 = (m : Int) := by rw [rangeSize_one]; split <;> omega
  have hlen : (rangeItems m).length = m := by rw [rangeItems, List.length_map, List.length_range]
  refine iter_new S (Heap.get?_push_size _ rfl) (fields_noC rfl) (by rw [hlen]; exact Walks.range hA _ 0 1 m) ?_ (fun j h q => ⟨_, q, _, _, rfl, rfl, .inr (.inr rfl)⟩) (fun b hb q => absurd (List.mem_singleton.mp hb) q) fun j v hj hp => ?_
  · show IsRangeIter _ _ (0 + ((0 : Nat) : Int) * 1) ((m : Int) - ((0 : Nat) : Int)) 1
    rw [show (0 + ((0 : Nat) : Int) * 1) = 0 from rfl, show ((m : Int) - ((0 : Nat) : Int)) = Builtin.Range.rangeSize 0 m 1 by rw [hsz]; exact Int.sub_zero _]
    exact Heap.get?_push_size _ rfl
  · rw [hlen] at hj
    obtain ⟨t, e⟩ := hp
    rw [show (0 + (j : Int) * 1) = Int.ofNat j by rw [Int.mul_one, Int.zero_add]; rfl] at e
    exact ⟨_, range_get m j hj, e ▸ .int _ _⟩

theorem src_range {R : Rec} (G : Gd w base mg mb) (hE : SE w base n R.e) (ok : EnvOk env) (hA : Room A n) {f : Str} {p p' : Pos} {a : Expr} {m : Nat} (hf : evName env.scope vs f = some (.val (.type "range"))) (h1 : R.es env.scope vs own [a] = some ([.int (Int.ofNat m)], own')) (hm : m ≤ 1000) (S : SR w base env X μ vs own s.heap) :
    wpAny (model P0 w) A (eval (.Call (.Name f p) [a] [] p') env) (fun x s₁ => wpAny (model P0 w) A (pyIter x) (AftI w base env X μ A vs s own' (rangeItems m)) noE s₁) noE s := by
  refine wpAny_Call_NameR (then_E (ev_name G hf ok S) fun v X₁ μ₁ k₁ tk₁ T₁ g₁ S₁ r₁ => r₁.valI (es_one h1 fun e₂ q he hb => ?_))
  rw [hb]
  refine PySem.callWith_type rfl (Calls.evalArgs_plain (Calls.spliced_cons (then_E (s := { s with heap := k₁, toks := tk₁ }) (hE.ok he ok hA S₁) fun nv X₂ μ₂ k₂ tk₂ T₂ g₂ S₂ r₂ => r₂.intI fun t₂ => Calls.spliced_nil (call_range_1 ?_))))
  refine wm (iter_range (s := { s with heap := (k₂.push { cls := .type "range", data := .fields #[.int 0 tk₂, .int (m : Int) t₂, .int 1 (tk₂ + 1)] }), toks := tk₂ + 1 + 1 }) hA.handled hm (S₂.push _) (IsRange.new ..)) fun it s' q => ?_
  exact AftI.from T₁ g₁ (AftI.from (s := { s with heap := k₁, toks := tk₁ }) T₂ g₂ (AftI.from (s := { s with heap := k₂, toks := tk₂ }) (St.grown fun b o e => Heap.get?_push_of_some _ e) (fun _ e => e) q))
theorem ev_src {R : Rec} (G : Gd w base mg mb) (hE : SE w base n R.e) (ok : EnvOk env) (hA : Room A n) {e : Expr} {ds : List AV} (h : R.src env.scope vs own e = some (ds, own')) (S : SR w base env X μ vs own s.heap) :
    wpAny (model P0 w) A (eval e env) (fun x s₁ => wpAny (model P0 w) A (pyIter x) (AftI w base env X μ A vs s own' ds) noE s₁) noE s := by
  unfold Rec.src at h
  cases q : rng? e with
  | none =>
    rw [q] at h
    exact bind_two h fun d own₁ h1 h2 => mp h2 fun xs h3 => then_E (hE.ok h1 ok hA S) fun v X₁ μ₁ k₁ tk₁ T₁ g₁ S₁ r₁ => wm (iter_of (s := { s with heap := k₁, toks := tk₁ }) hA.handled S₁ r₁ h3) fun it s' q => AftI.from T₁ g₁ q
  | some q' =>
    rw [q] at h
    obtain ⟨p, e1⟩ := rng?_is q
    rw [e1]
    refine ite_then h fun hf h => bind_two h fun r own₁ h1 h => bind_any h fun d h2 h => bind_any h fun i h3 h => bind_any h fun m h4 h => ite_then h fun hm h => sp h (src_range G hE ok hA (isTy_is hf) (h1.trans ?_) hm S)
    rw [show r = [d] from one?_is h2, in?_is h3, nat?_is h4]
end

inductive ClosGo (env : Env) (names : List (Str × NameKind)) (cs : List (Str × Addr)) (t : Sem (List (Str × Addr))) : Prop
  | mk (cl : List (Str × Addr)) (e : t = pure cl) (h1 : ∀ x c, cs.lookup x = some c → ∃ c', cl.lookup x = some c') (h2 : ∀ y ∈ names, y.2 = .free → ∃ c, cl.lookup y.1 = some c) (h3 : (∀ x c, cs.lookup x = some c → env.cells.lookup x = some c) → ∀ x c, cl.lookup x = some c → env.cells.lookup x = some c)
noncomputable abbrev closStep (env : Env) (x : Str × NameKind) (r : List (Str × Addr)) : Sem (ForInStep (List (Str × Addr))) := do
  if x.2 == .free then (do let c ← cellOf env x.1; pure (ForInStep.yield ((x.1, c) :: r))) else pure (ForInStep.yield r)
theorem closure_go (env : Env) (names : List (Str × NameKind)) (cs : List (Str × Addr)) (h : ∀ y ∈ names, y.2 = .free → ∃ c, env.cells.lookup y.1 = some c) : ClosGo env names cs (forIn names cs (closStep env)) := by
  induction names generalizing cs with
  | nil => exact ⟨cs, rfl, fun x c e => ⟨c, e⟩, (fun y hy => (List.not_mem_nil hy).elim), fun h => h⟩
  | cons p r ih =>
    have hr : ∀ y ∈ r, y.2 = .free → ∃ c, env.cells.lookup y.1 = some c := fun y hy => h y (List.mem_cons_of_mem _ hy)
    rw [List.forIn_cons]
    by_cases q : p.2 = .free
    · obtain ⟨c, ec⟩ := h p List.mem_cons_self q
      have hst : closStep env p cs = pure (ForInStep.yield ((p.1, c) :: cs)) := by
        unfold closStep cellOf
        rw [if_pos (beq_iff_eq.mpr q), ec]; rfl
      rw [hst, pure_bind]
      refine (ih ((p.1, c) :: cs) hr).casesOn fun cl e1 e2 e3 e4 => ⟨cl, e1, fun x c' e => ?_, fun y hy hf => ?_, fun hs => e4 fun x c' e => ?_⟩
      · exact (Decidable.em (x = p.1)).elim (fun z => z ▸ e2 p.1 c (lookup_self _ _ _)) fun z => e2 x c' ((lookup_ne z _ _).trans e)
      · exact (List.mem_cons.mp hy).elim (fun z => z ▸ e2 p.1 c (lookup_self _ _ _)) fun z => e3 y z hf
      · exact lookup_cases e (fun z1 z2 => z1 ▸ z2 ▸ ec) fun _ e => hs x c' e
    · have hst : closStep env p cs = pure (ForInStep.yield cs) := by
        unfold closStep
        rw [if_neg fun z => q (beq_iff_eq.mp z)]
      rw [hst, pure_bind]
      exact (ih cs hr).casesOn fun cl e1 e2 e3 e4 => ⟨cl, e1, e2, fun y hy hf => (List.mem_cons.mp hy).elim (fun z => absurd (z ▸ hf) q) fun z => e3 y z hf, e4⟩

theorem closure_ok {scope : Scope} {env : Env} (h : ∀ y ∈ scope.names, y.2 = .free → ∃ c, env.cells.lookup y.1 = some c) :
    ∃ cl, closureFor scope env = pure cl ∧ (∀ y ∈ scope.names, y.2 = .free → ∃ c, cl.lookup y.1 = some c) ∧ ∀ x c, cl.lookup x = some c → env.cells.lookup x = some c :=
  (closure_go env scope.names [] h).casesOn fun cl e1 _ e3 e4 => ⟨cl, (congrArg (fun t => t >>= pure) e1).trans (pure_bind _ _), e3, e4 fun x c e => nn e⟩

theorem lookup_mapf {f : Str × NameKind → Str × NameKind} (hf : ∀ y, (f y).1 = y.1) {names : List (Str × NameKind)} {x : Str} {k : NameKind} (h : (names.map f).lookup x = some k) : ∃ k₀, names.lookup x = some k₀ ∧ k = (f (x, k₀)).2 := by
  induction names with
  | nil => exact nn h
  | cons p r ih =>
    obtain ⟨n, k₁⟩ := p
    rw [List.map_cons, show f (n, k₁) = (n, (f (n, k₁)).2) from Prod.ext (hf (n, k₁)) rfl] at h
    exact lookup_cases h (fun e1 e2 => ⟨k₁, e1 ▸ lookup_self _ _ _, e1 ▸ e2.symm⟩) fun e1 h => (ih h).imp fun k₀ q => ⟨(lookup_ne e1 _ _).trans q.1, q.2⟩

noncomputable abbrev relK (sc : Scope) (y : Str × NameKind) : Str × NameKind := match y with
  | (n, k) => if (k == .free && sc.kind == .function && sc.names.lookup n == some .cell) then (n, NameKind.cell) else (n, k)
theorem relK_fst (sc : Scope) (y : Str × NameKind) : (relK sc y).1 = y.1 := by
  obtain ⟨n, k⟩ := y
  show (if (k == .free && sc.kind == .function && sc.names.lookup n == some .cell) = true then (n, NameKind.cell) else (n, k)).1 = n
  by_cases q : (k == .free && sc.kind == .function && sc.names.lookup n == some .cell) = true
  · rw [if_pos q]
  · rw [if_neg q]
theorem lookup_relabel {sc : Scope} {names : List (Str × NameKind)} {x : Str} {k : NameKind} (h : (names.map fun (n, k) => if (k == .free && sc.kind == .function && sc.names.lookup n == some .cell) then (n, NameKind.cell) else (n, k)).lookup x = some k) :
    ∃ k₀, names.lookup x = some k₀ ∧ (k = k₀ ∨ (k₀ = .free ∧ k = .cell ∧ sc.names.lookup x = some .cell)) :=
  (lookup_mapf (f := relK sc) (relK_fst sc) h).imp fun k₀ q => ⟨q.1, (Decidable.em ((k₀ == .free && sc.kind == .function && sc.names.lookup x == some .cell) = true)).elim
    (fun z => .inr ⟨eq_of_beq (and_is (and_is z fun a _ => a) fun a _ => a), q.2.trans (congrArg Prod.snd (if_pos z)), eq_of_beq (and_is z fun _ b => b)⟩) fun z => .inl (q.2.trans (congrArg Prod.snd (if_neg z)))⟩
theorem relabel_free {sc : Scope} {names : List (Str × NameKind)} {x : Str} (h : names.lookup x = some .free) : (names.map fun (n, k) => if (k == .free && sc.kind == .function && sc.names.lookup n == some .cell) then (n, NameKind.cell) else (n, k)).lookup x ≠ some .local := fun q =>
  (lookup_relabel q).elim fun k₀ z => z.2.elim (fun y => NameKind.noConfusion (y.trans (Option.some.inj (z.1.symm.trans h)))) fun y => NameKind.noConfusion y.2.1

theorem lookup_filter {α : Type} {p : Str → Bool} {l : List (Str × α)} {x : Str} {d : α} (h : (l.filter fun v => p v.1).lookup x = some d) : l.lookup x = some d ∧ p x = true := by
  induction l with
  | nil => exact nn h
  | cons e r ih =>
    obtain ⟨n, e⟩ := e
    rw [List.filter_cons] at h
    by_cases q : p n = true
    · rw [if_pos q] at h
      exact lookup_cases h (fun z1 z2 => ⟨z1 ▸ z2 ▸ lookup_self _ _ _, z1 ▸ q⟩) fun z h => ⟨(lookup_ne z _ _).trans (ih h).1, (ih h).2⟩
    · rw [if_neg q] at h
      exact ⟨(lookup_ne (fun z : x = n => q (z ▸ (ih h).2)) _ _).trans (ih h).1, (ih h).2⟩

section
variable {w : World} {base : Heap} {mg mb : Str → Option Value} {env : Env} {X μ : List Addr} {vs : Vars} {own own' : Own} {A : Around} {s : Shared} {n : Nat}

theorem SR.weak {vs' : Vars} {h : Heap} (S : SR w base env X μ vs own h) (hs : ∀ x d, vs'.lookup x = some d → vs.lookup x = some d) : SR w base env X μ vs' own h :=
  ⟨S.stays, S.baseX, S.tabX, S.tab, S.own, S.subμ, S.apart, S.locX, S.ns.imp fun m q => ⟨q.1, fun x d e k => q.2 x d (hs x d e) k⟩, fun x d e k => S.cells x d (hs x d e) k⟩

theorem SR.notW {h : Heap} (S : SR w base env X μ vs own h) {I : Addr} {o : Obj} (ho : h.get? I = some o) (hn : noC o) : ∀ x d c, vs.lookup x = some d → env.kindOf x ≠ some .local → env.cells.lookup x = some c → c ∉ [I] := fun x d c e k ec q =>
  (S.cells x d e k).elim fun c' z => z.elim fun v z => z.2.1.elim fun o' r => hn (some v) (Option.some.inj (r.1.symm.trans (show h.get? c' = some o from (Option.some.inj (z.1.symm.trans ec)).trans (List.mem_singleton.mp q) ▸ ho)) ▸ r.2)

theorem late_St {W X' μ' : List Addr} {h h' h'' : Heap} {I : Addr} (T : St W X μ h X' μ' h') (hn : h.get? I = none) (hk : ∀ b o, b ≠ I → h'.get? b = some o → h''.get? b = some o) : St W X μ h (rmv I X') μ' h'' :=
  ⟨fun b o e hb => hk b o (fun q => nn (hn.symm.trans (q ▸ e))) (T.keep b o e hb), fun b e => (Decidable.em (b = I)).elim (fun q => q ▸ hn) fun q => T.live b (up_no (fun o => hk b o q) e), fun b hb => T.fresh b (of_rmv hb).1, T.pre⟩
inductive LateD (w : World) (base : Heap) (env : Env) (X μ : List Addr) (vs : Vars) (h : Heap) (X' μ' : List Addr) (own' : Own) (h' : Heap) (I : Addr) (h'' : Heap) : Prop
  | mk (C : Core w base (rmv I X') μ' own' h'') (T : St (83 :: μ) X μ h (rmv I X') μ' h'') (g : ∀ a ∈ X, a ∈ rmv I X') (S : SR w base env (rmv I X') μ' vs own' h'') (up : ∀ b o, h'.get? b = some o → b ∉ X' → b ∉ rmv I X' ∧ h''.get? b = some o)
theorem late_drop {h h' h'' : Heap} {X' μ' : List Addr} {I : Addr} (S : SR w base env X μ vs own h) (T : St (83 :: μ) X μ h X' μ' h') (g : ∀ a ∈ X, a ∈ X') (C : Core w base X' μ' own' h') (hX : I ∈ X') (hμ : I ∉ μ') (h83 : I ≠ 83) (hn : h.get? I = none)
    (hk : ∀ b o, b ≠ I → h'.get? b = some o → h''.get? b = some o) : LateD w base env X μ vs h X' μ' own' h' I h'' :=
  have CU := C.drop hk hX hμ h83
  have T' := late_St T hn hk
  have g' : ∀ a ∈ X, a ∈ rmv I X' := fun a ha => mem_rmv (g a ha) fun q => (S.core.has ha).elim fun _ e => nn (hn.symm.trans (q ▸ e))
  ⟨CU.1, T', g', S.backF T' g' CU.1, CU.2⟩

theorem SR.bind1 {x : Str} {v : Value} {d : AV} (ok : EnvOk env) (S : SR w base env X μ vs own s.heap) (hl : env.kindOf x = some .local) (r : VR w s.heap X μ d v) :
    wpAny (model P0 w) A (storeName env x v) (fun _ s' => AftN w base env [env.locals] X μ s (fun h' => SR w base env X μ ((x, d) :: vs) own h') s') noE s := by
  obtain ⟨m, hn, hv⟩ := S.ns
  refine wpAny_storeName_local hl hn (fun h' hn' hs => ?_) (by rw [ok.kind]; rfl)
  have hk' : ∀ b o, b ≠ env.locals → s.heap.get? b = some o → h'.get? b = some o := fun b o q e => hs.extBut b o q e
  have hk2 : ∀ b o, s.heap.get? b = some o → b ∉ X → b ∉ X ∧ h'.get? b = some o := fun b o e hb => ⟨hb, hk' b o (fun q => hb (q ▸ S.locX)) e⟩
  have hm : ∃ ν, μ = μ ++ ν := ⟨[], (List.append_nil _).symm⟩
  obtain ⟨C, T⟩ := S.core.touch hk' S.locX S.a3 (fun q => S.a1 q.symm) (hn'.imp fun _ r => r.elim fun _ r => r.elim fun _ r => r.1)
  refine ⟨h', _, rfl, T _ (List.mem_singleton.mpr rfl), ⟨C.stays, C.baseX, C.tabX, C.tab, C.own, C.subμ, S.apart, S.locX, ⟨_, hn', fun y e he hky => ?_⟩, fun y e he hky => ?_⟩⟩
  · exact lookup_cases he (fun z1 z2 => ⟨v, if_pos z1, z2 ▸ r.mono hk2 hm⟩) fun z he => (hv y e he hky).imp fun u q => ⟨(if_neg z).trans q.1, q.2.mono hk2 hm⟩
  · rw [lookup_ne fun q : y = x => hky (q ▸ hl)] at he
    exact (S.cells y e he hky).imp fun c z => z.imp fun u z => ⟨z.1, IsCell.up z.2.1 fun o => hk' c o z.2.2.2.2.1, z.2.2.1, z.2.2.2.1, z.2.2.2.2.1, z.2.2.2.2.2.mono hk2 hm⟩

noncomputable abbrev TgtOk (w : World) (base : Heap) (env : Env) (X μ : List Addr) (vs : Vars) (own : Own) (A : Around) (s : Shared) (t : Expr) (v : Value) (b : Vars) : Prop := (∀ x d, vs.lookup x = some d → (b ++ vs).lookup x = some d) ∧
  wpAny (model P0 w) A (assign t env v) (fun _ s' => AftN w base env [env.locals] X μ s (fun h' => SR w base env X μ (b ++ vs) own h') s') noE s
theorem tgt_two {x y : Str} {p q : Pos} {k : Nat} {tp : Pos} {v : Value} {a c : AV} (ok : EnvOk env) (hA : A.handled = none) (hx : env.kindOf x = some .local) (hy : env.kindOf y = some .local) (hxy : x ≠ y) (S : SR w base env X μ vs own s.heap) (r : VR w s.heap X μ (.tup [a, c]) v) (hv : ∀ x d, vs.lookup x = some d → env.kindOf x ≠ some .local) :
    TgtOk w base env X μ vs own A s (.Tuple [.Name x p, .Name y q] k tp) v [(x, a), (y, c)] := by
  refine ⟨fun z e he => ?_, ?_⟩
  · show List.lookup z ((x, a) :: (y, c) :: vs) = _
    rw [lookup_ne fun q : z = x => hv z e he (q ▸ hx), lookup_ne fun q : z = y => hv z e he (q ▸ hy)]; exact he
  · refine r.tupI fun l us hl hX hs => ?_
    obtain ⟨u, u', e, r1, r2⟩ : ∃ u u', us.toList = [u, u'] ∧ VR w s.heap X μ a u ∧ VR w s.heap X μ c u' := hs.twoI (N := fun us => ∃ u u', us = [u, u'] ∧ VR w s.heap X μ a u ∧ VR w s.heap X μ c u') fun u u' r1 r2 => ⟨u, u', rfl, r1, r2⟩
    have eu : us = #[u, u'] := by rw [← Array.toArray_toList (xs := us), e]
    subst eu
    refine wpAny_assign_Tuple hA hl.is rfl rfl fun h₁ hx₁ => ?_
    have hk : ∀ b o, s.heap.get? b = some o → h₁.get? b = some o := fun b o e => hx₁ b o (Nat.ne_of_lt (Heap.lt_size e)) e
    have S₁ := S.grown hk
    have T₁ : St [env.locals] X μ s.heap X μ h₁ := .grown hk
    have hW : ∀ a ∈ [env.locals], a ∈ X := fun a ha => List.mem_singleton.mp ha ▸ S.locX
    show wpAny _ A (do holding [u'] (assign (.Name x p) env u); assignInOrder [assign (.Name y q) env] [u']) _ _ _
    refine wpAny_bind (wpAny_holding (wpAny_assign_Name (wm (S₁.bind1 (s := { s with heap := h₁ }) ok hx (T₁.vr hW r1)) fun _ s₂ z => z.casesOn fun h₂ tk₂ e T₂ S₂ => e ▸ ?_)))
    show wpAny _ A (do holding [] (assign (.Name y q) env u'); assignInOrder [] []) _ _ _
    refine wpAny_bind (wpAny_holding (wpAny_assign_Name (wm (S₂.bind1 (s := { s with heap := h₂, toks := tk₂ }) ok hy (T₂.vr hW (T₁.vr hW r2))) fun _ s₃ z => z.casesOn fun h₃ tk₃ e T₃ S₃ => wpAny_pure ⟨h₃, tk₃, e, (T₁.trans T₂ fun a ha => .inl ha).trans T₃ fun a ha => .inl ha, S₃.weak fun z e he => ?_⟩)))
    refine lookup_cases (show List.lookup z ((x, a) :: (y, c) :: vs) = some e from he) (fun z1 z2 => ?_) fun z1 he => lookup_cases he (fun z3 z4 => ?_) fun z3 he => ?_
    · rw [z1, lookup_ne hxy, z2]; exact lookup_self _ _ _
    · rw [z3, z4]; exact lookup_self _ _ _
    · rw [lookup_ne z3, lookup_ne z1]; exact he
theorem ev_target {t : Expr} {v : Value} {d : AV} {b : Vars} (ok : EnvOk env) (hA : A.handled = none) (h : evTarget env.scope t d = some b) (S : SR w base env X μ vs own s.heap) (r : VR w s.heap X μ d v) (hv : ∀ x d, vs.lookup x = some d → env.kindOf x ≠ some .local) : TgtOk w base env X μ vs own A s t v b := by
  unfold evTarget at h
  cases q : nm? t with
  | some x =>
    rw [q] at h
    rw [nm?_is q]
    refine ite_then h fun hx h => so h ⟨fun y e he => ?_, wpAny_assign_Name (S.bind1 ok (eq_of_beq hx) r)⟩
    exact (lookup_ne (fun q : y = x.1 => hv y e he (q ▸ eq_of_beq hx)) _ _).trans he
  | none =>
    rw [q] at h
    refine bind_any h fun es h1 h => bind_any h fun e h2 h => bind_any h fun x h3 h => bind_any h fun y h4 h => bind_any h fun l h5 h => bind_any h fun ab h6 h => ite_then h fun hc h => so h (and3 hc fun c1 c2 c3 => ?_)
    obtain ⟨k, tp, e1⟩ := tp?_is h1
    rw [tu?_is h5, two?_is h6] at r
    rw [e1, two?_is h2, nm?_is h3, nm?_is h4]
    exact tgt_two ok hA (eq_of_beq c1) (eq_of_beq c2) (bne_iff_ne.mp c3) S r hv
end

section
variable {w : World} {base : Heap} {mg mb : Str → Option Value} {env cenv : Env} {X μ X₀ μ₀ : List Addr} {vs vf : Vars} {own own' : Own} {A : Around} {s : Shared} {n : Nat} {h₀ : Heap}

structure CI (w : World) (base : Heap) (A : Around) (X₀ μ₀ : List Addr) (h₀ : Heap) (cenv : Env) (vf : Vars) (I acc : Addr) (ds : List AV) (fp : List Addr) (P : Nat → Value → Prop) (Q : Nat → Heap → Prop) (i : Nat) (don : List AV) (own : Own) (X μ : List Addr) (h : Heap) : Prop where
  T : St (83 :: μ₀) X₀ μ₀ h₀ X μ h
  sub : ∀ a ∈ X₀, a ∈ X
  sr : SR w base cenv X μ vf own h
  wk : Wk w A cenv.locals X μ h I ds i fp P Q
  accX : acc ∈ X
  accμ : acc ∉ μ
  acc83 : acc ≠ 83
  accC : acc ≠ cenv.locals
  accfp : acc ∉ fp
  us : ∃ us, PLst h acc us ∧ VRs w h X μ don us.toList

theorem CI.step {I acc : Addr} {ds don : List AV} {fp : List Addr} {P : Nat → Value → Prop} {Q : Nat → Heap → Prop} {i : Nat} {h h' : Heap} {W X' μ' : List Addr} (K : CI w base A X₀ μ₀ h₀ cenv vf I acc ds fp P Q i don own X μ h) (T : St W X μ h X' μ' h') (hW : ∀ a ∈ W, a ∈ X)
    (h0 : ∀ a ∈ W, a ∈ (83 :: μ₀ : List Addr) ∨ h₀.get? a = none) (hacc : acc ∉ W) (hfp : ∀ b ∈ fp, b ∉ W) (g : ∀ a ∈ X, a ∈ X') (S' : SR w base cenv X' μ' vf own' h') :
    CI w base A X₀ μ₀ h₀ cenv vf I acc ds fp P Q i don own' X' μ' h' :=
  ⟨K.T.trans T h0, fun a ha => g a (K.sub a ha), S', K.wk.step T hW hfp (g _ K.wk.inX), g _ K.accX, T.off (K.sr.core.has K.accX) K.accμ, K.acc83, K.accC, K.accfp, K.us.imp fun us q => ⟨q.1.up fun o e => T.keep _ _ e hacc, T.vrs hW q.2⟩⟩

theorem append_upd {l : Addr} {items : Array Value} {c : Nat} {x : Value} {E : Value → Shared → Prop} {Q : Value → Shared → Prop} (ho : s.heap.get? l = some { cls := .type "list", data := .seq items c })
    (hQ : Q .none { s with heap := s.heap.update l (Obj.mapSeq (·.push x)) }) (hsz : items.size ≤ sizeLine) :
    wpAny (model P0 w) A (call (.builtin "list.append") [.ref l, x]) Q E s := by
  have hl : s.heap.IsList l items := ⟨_, ho, rfl, c, rfl⟩
  refine wpAny_call_entry slot_list_append hl.typeIs entry_list_append ?_ (args_list_append _ _)
  show wpAny _ _ (updateSeq l (·.push x) >>= fun _ => ret .none) _ _ s
  refine wpAny_bind ?_
  exact wpAny_updateSeq ho rfl (wpAny_pure ⟨.none, rfl, hQ⟩)

theorem CI.append {I acc : Addr} {ds don : List AV} {fp : List Addr} {P : Nat → Value → Prop} {Qs : Nat → Heap → Prop} {i : Nat} {y : Value} {d : AV} {E : Value → Shared → Prop} {Q : Value → Shared → Prop} (K : CI w base A X₀ μ₀ h₀ cenv vf I acc ds fp P Qs i don own X μ s.heap)
    (hacc0 : h₀.get? acc = none) (hsz : don.length ≤ 1000) (r : VR w s.heap X μ d y)
    (hQ : ∀ h', CI w base A X₀ μ₀ h₀ cenv vf I acc ds fp P Qs i (don ++ [d]) own X μ h' → Q .none { s with heap := h' }) : wpAny (model P0 w) A (call (.builtin "list.append") [.ref acc, y]) Q E s := by
  obtain ⟨us, ⟨k, hl⟩, hs⟩ := K.us
  refine append_upd hl ?_ (small_size hs.size hsz)
  obtain ⟨k', e'⟩ := mapSeq_plain (us := us) (us' := us.push y) (k := k) (f := fun xs => xs.push y) rfl
  have hn : (s.heap.update acc (Obj.mapSeq fun xs => xs.push y)).get? acc = some { cls := .type "list", data := .seq (us.push y) k' } := by rw [← e']; exact Heap.get?_update_self _ hl (by rw [e']; rfl)
  obtain ⟨C, T⟩ := K.sr.core.touch (upd_ne (f := Obj.mapSeq fun xs => xs.push y)) K.accX K.accμ K.acc83 ⟨_, hn⟩
  have T := T [acc] (List.mem_singleton.mpr rfl)
  have hW : ∀ a ∈ [acc], a ∈ X := fun a ha => List.mem_singleton.mp ha ▸ K.accX
  have S' := K.sr.back' T hW (fun q => K.accC (List.mem_singleton.mp q).symm) (K.sr.notW hl (seq_noC rfl)) K.sr.locX C
  exact hQ _ ⟨K.T.trans T fun a ha => .inr (List.mem_singleton.mp ha ▸ hacc0), K.sub, S', K.wk.step T hW (fun b hb q => K.accfp ((List.mem_singleton.mp q) ▸ hb)) K.wk.inX, K.accX, K.accμ, K.acc83, K.accC, K.accfp, us.push y, ⟨k', hn⟩, by
    rw [Array.toList_push]
    exact (T.vrs hW hs).append (.cons (T.vr hW r) .nil)⟩

theorem all_tests {ifs : List Expr} {b : Bool} {vs₁ : Vars} {own₁ : Own} {E : Value → Shared → Prop} {R : Rec} (hT : ST w base n R.t) (ok : EnvOk env) (hA : Room A n) {Q : Bool → Shared → Prop} (h : (match ifs with
    | [] => some (true, own)
    | [c] => R.t env.scope vs₁ own c
    | _ => none) = some (b, own₁)) (S : SR w base env X μ vs₁ own s.heap) (hQ : ∀ s', AftB w base env X μ vs₁ s own₁ b b s' → Q b s') :
    wpAny (model P0 w) A (forIn ifs true fun c r => if r = true then do let ok ← isTrue c env (eval c env); pure (ForInStep.yield ok) else pure (ForInStep.yield r)) Q E s := by
  cases ifs with
  | nil => exact sp h (fun hQ => wpAny_pure (hQ _ (AftB.here S))) hQ
  | cons c cs =>
    cases cs with
    | cons _ _ => exact nn h
    | nil =>
      rw [List.forIn_cons, if_pos rfl, bind_assoc]
      refine wpAny_bind (wme (hT.ok h ok hA S) fun v s₁ q => ?_)
      have e : v = b := q.casesOn fun _ _ _ _ _ _ _ _ r => r
      subst e
      rw [pure_bind]
      exact wpAny_pure (hQ _ q)
end

section
variable {w : World} {base : Heap} {mg mb : Str → Option Value} {env cenv : Env} {X μ X₀ μ₀ : List Addr} {vs vf : Vars} {own own' : Own} {A : Around} {s : Shared} {n : Nat} {h₀ : Heap}

theorem drop_at {α : Type} {l : List α} {i : Nat} {d : α} (h : l[i]? = some d) : l.drop i = d :: l.drop (i + 1) := by
  obtain ⟨hlt, e⟩ := List.getElem?_eq_some_iff.mp h
  rw [List.drop_eq_getElem_cons hlt, e]

noncomputable abbrev tstOf (R : Rec) (sc : Scope) (ifs : List Expr) : Vars → Own → Option (Bool × Own) := fun vs own => match ifs with
  | [] => some (true, own)
  | [c] => R.t sc vs own c
  | _ => none

theorem comp_tests {RR : Result → Shared → Prop} {elt target iter : Expr} {ifs : List Expr} {scope : Scope} {pos : Pos} {it acc : Value} {env : Env} (I : Nat → Shared → Prop)
    (turn : ∀ n s, I n s → wpAny (model P0 w) A (pyNext it) (fun r s₁ => match r with
      | none => RR (.ok .next) s₁
      | some v => wpAny (model P0 w) A (letOwnedTupleGo target it v) (fun _ s₁' => wpAny (model P0 w) A (assign target env v) (fun _ s₂ =>
          wpAny (model P0 w) A (forIn ifs true fun c r => if r = true then do let ok ← isTrue c env (eval c env); pure (ForInStep.yield ok) else pure (ForInStep.yield r)) (fun ok s₃ =>
            if ok = true then wpAny (model P0 w) A (eval elt env) (fun x s₄ =>
              wpAny (model P0 w) A (call (.builtin "list.append") [acc, x]) (fun _ s₅ => ∃ m, m < n ∧ I m s₅) noE s₄) noE s₃
            else ∃ m, m < n ∧ I m s₃) noE s₂) noE s₁') noE s₁) noE s)
    (n : Nat) (h : I n s) : codeAny (model P0 w) A (.compLoop (.ListComp elt [⟨target, iter, ifs, 0⟩] scope pos) 0 it acc env) RR s := by
  refine codeAny_loop rfl I (fun n s hI => ?_) n h
  show wpAny _ A ((compTurn (.ListComp elt [⟨target, iter, ifs, 0⟩] scope pos) 0 it acc env).onRaise (fun x => do noteFrame x env; theTreesLotGoes x)) _ _ s
  refine wpAny_noted ?_
  rw [compTurn_list]
  refine wpAny_bind (wpAny_standAt (wpAny_bind (wpAny_mono (turn n s hI) (fun r s₁ h₁ => ?_) fun _ _ h' => h'.elim)))
  cases r with
  | none => exact wpAny_pure h₁
  | some v =>
    refine wpAny_bind (wpAny_mono h₁ (fun _ s₁' h₁' => ?_) fun _ _ h' => h'.elim)
    refine wpAny_bind (wpAny_mono h₁' (fun _ s₂ h₂ => wpAny_bind (wpAny_mono h₂ (fun ok s₃ h₃ => ?_) fun _ _ h' => h'.elim)) fun _ _ h' => h'.elim)
    cases ok with
    | false => exact wpAny_pure ⟨rfl, h₃⟩
    | true =>
      exact wpAny_bind (wpAny_bind (wpAny_mono h₃ (fun x s₄ h₄ => wpAny_bind (wpAny_mono h₄ (fun _ s₅ h₅ => wpAny_pure (wpAny_pure ⟨rfl, h₅⟩)) fun _ _ h' => h'.elim)) fun _ _ h' => h'.elim))

theorem CI.go {I acc : Addr} {ds don : List AV} {fp : List Addr} {P : Nat → Value → Prop} {Q : Nat → Heap → Prop} {i : Nat} {h h' : Heap} {X' μ' : List Addr} (K : CI w base A X₀ μ₀ h₀ cenv vf I acc ds fp P Q i don own X μ h) (T : St (83 :: μ) X μ h X' μ' h') (g : ∀ a ∈ X, a ∈ X') (S' : SR w base cenv X' μ' vf own' h') :
    CI w base A X₀ μ₀ h₀ cenv vf I acc ds fp P Q i don own' X' μ' h' :=
  K.step T K.sr.sub83 (fun a ha => (List.mem_cons.mp ha).elim (fun q => .inl (q ▸ List.mem_cons_self)) fun q => (K.T.back q).imp (List.mem_cons_of_mem _) id) (fun q => (List.mem_cons.mp q).elim K.acc83 K.accμ) (fun b hb q => (List.mem_cons.mp q).elim (K.wk.off b hb).2.1 (K.wk.off b hb).1) g S'
theorem CI.locals {I acc : Addr} {ds don : List AV} {fp : List Addr} {P : Nat → Value → Prop} {Q : Nat → Heap → Prop} {i : Nat} {h h' : Heap} (K : CI w base A X₀ μ₀ h₀ cenv vf I acc ds fp P Q i don own X μ h) (hC0 : h₀.get? cenv.locals = none) (T : St [cenv.locals] X μ h X μ h') (S' : SR w base cenv X μ vf own' h') :
    CI w base A X₀ μ₀ h₀ cenv vf I acc ds fp P Q i don own' X μ h' :=
  K.step T (fun a ha => List.mem_singleton.mp ha ▸ K.sr.locX) (fun a ha => .inr (List.mem_singleton.mp ha ▸ hC0)) (fun q => K.accC (List.mem_singleton.mp q)) (fun b hb q => (K.wk.off b hb).2.2.1 (List.mem_singleton.mp q)) (fun _ e => e) S'
theorem CI.turn {I acc : Addr} {ds don : List AV} {fp : List Addr} {P : Nat → Value → Prop} {Q : Nat → Heap → Prop} {i j : Nat} {h h' : Heap} (K : CI w base A X₀ μ₀ h₀ cenv vf I acc ds fp P Q i don own X μ h) (hI0 : h₀.get? I = none) (hk : ∀ b o, b ≠ I → h.get? b = some o → h'.get? b = some o) (he : ∃ o, h'.get? I = some o) (wk : Wk w A cenv.locals X μ h' I ds j fp P Q) (C : Core w base X μ own h') :
    CI w base A X₀ μ₀ h₀ cenv vf I acc ds fp P Q j don own X μ h' :=
  have off := K.wk.off I K.wk.mem
  have T := (K.sr.core.touch hk K.wk.inX off.1 off.2.1 he).2 [I] (List.mem_singleton.mpr rfl)
  have wI : ∀ a ∈ [I], a ∈ X := fun a ha => List.mem_singleton.mp ha ▸ K.wk.inX
  ⟨K.T.trans T fun a ha => .inr (List.mem_singleton.mp ha ▸ hI0), K.sub, off.2.2.2.elim fun o z => K.sr.back' T wI (fun q => off.2.2.1 (List.mem_singleton.mp q).symm) (K.sr.notW z.1 z.2) K.sr.locX C, wk, K.accX, K.accμ, K.acc83, K.accC, K.accfp, K.us.imp fun us q => ⟨q.1.up fun o e => hk _ _ (fun q => K.accfp (q ▸ K.wk.mem)) e, T.vrs wI q.2⟩⟩

inductive CLoop (w : World) (base : Heap) (A : Around) (X₀ μ₀ : List Addr) (h₀ : Heap) (cenv : Env) (vf : Vars) (I acc : Addr) (ds ys : List AV) (fp : List Addr) (P : Nat → Value → Prop) (Q : Nat → Heap → Prop) (s : Shared) (own' : Own) (go : List AV → Own → Option (List AV × Own)) (k : Nat) (s' : Shared) : Prop
  | mk (i : Nat) (don rest : List AV) (own₁ : Own) (X₁ μ₁ : List Addr) (h₁ : Heap) (tk₁ : Tok) (hik : i + k = ds.length) (e : s' = { s with heap := h₁, toks := tk₁ }) (K : CI w base A X₀ μ₀ h₀ cenv vf I acc ds fp P Q i don own₁ X₁ μ₁ h₁) (hgo : go (ds.drop i) own₁ = some (rest, own')) (hy : ys = don ++ rest)

theorem comp_loop {R : Rec} (hE : SE w base n R.e) (hT : ST w base n R.t) (ok : EnvOk cenv) (hA : Room A n) (hv : ∀ x d, vf.lookup x = some d → cenv.kindOf x ≠ some .local) {I acc : Addr} {ds ys : List AV} {fp : List Addr} {P : Nat → Value → Prop} {Q : Nat → Heap → Prop}
    (hI0 : h₀.get? I = none) (hacc0 : h₀.get? acc = none) (hC0 : h₀.get? cenv.locals = none) {target elt iter : Expr} {ifs : List Expr} {scope : Scope} {pos : Pos} {RR : Result → Shared → Prop} (hys : ys.length ≤ 1000)
    (K : CI w base A X₀ μ₀ h₀ cenv vf I acc ds fp P Q 0 [] own X μ s.heap) (hgo : compGo (tstOf R cenv.scope ifs) (fun vs own => R.e cenv.scope vs own elt) (evTarget cenv.scope target) vf ds own = some (ys, own'))
    (hfin : ∀ X₁ μ₁ h₁ h' tk, CI w base A X₀ μ₀ h₀ cenv vf I acc ds fp P Q ds.length ys own' X₁ μ₁ h₁ → (∀ b o, b ≠ I → h₁.get? b = some o → h'.get? b = some o) → RR (.ok .next) { s with heap := h', toks := tk }) :
    codeAny (model P0 w) A (.compLoop (.ListComp elt [⟨target, iter, ifs, 0⟩] scope pos) 0 (.ref I) (.ref acc) cenv) RR s := by
  refine comp_tests (CLoop w base A X₀ μ₀ h₀ cenv vf I acc ds ys fp P Q s own' (compGo (tstOf R cenv.scope ifs) (fun vs own => R.e cenv.scope vs own elt) (evTarget cenv.scope target) vf)) (fun k s' L => L.casesOn fun i don rest own₁ X₁ μ₁ h₁ tk₁ hik e K hgo hy => ?_) ds.length ⟨0, [], ys, own, X, μ, s.heap, s.toks, Nat.zero_add _, rfl, K, hgo, rfl⟩
  subst e
  refine K.wk.next (s := { s with heap := h₁, toks := tk₁ }) K.sr.core (by omega) (fun v d h₂ tk₂ hd r wk₂ C₂ hk₂ he₂ => ?_) fun hend h₂ tk₂ hk₂ => ?_
  · rw [drop_at hd] at hgo
    refine bind_any hgo fun b hb hgo => bind_two hgo fun c own₂ htst hgo => ?_
    have hlt : i < ds.length := (List.getElem?_eq_some_iff.mp hd).1
    obtain ⟨oi₂, hoi₂, hit₂⟩ := he₂
    refine hit₂.go hoi₂ ?_
    have K₂ := K.turn hI0 hk₂ ⟨oi₂, hoi₂⟩ wk₂ C₂
    obtain ⟨hbv, hass⟩ := ev_target (s := { s with heap := h₂, toks := tk₂ }) ok hA.handled hb K₂.sr r hv
    refine wme hass fun _ s₃ z => z.casesOn fun h₃ tk₃ e T₃ S₃ => e ▸ ?_
    have K₃ := K₂.locals hC0 T₃ (S₃.weak hbv)
    refine all_tests (s := { s with heap := h₃, toks := tk₃ }) (R := R) hT ok hA htst S₃ fun s₄ z => z.casesOn fun X₄ μ₄ h₄ tk₄ e T₄ g₄ S₄ _ => e ▸ ?_
    have K₄ := K₃.go T₄ g₄ (S₄.weak hbv)
    cases c with
    | true =>
      refine bind_two hgo fun y own₃ helt hgo => map_any hgo fun q hgo2 e => ?_
      have e1 : y :: q.1 = rest := congrArg Prod.fst e
      have e2 : q.2 = own' := congrArg Prod.snd e
      rw [if_pos rfl]
      refine wme (hE.ok (s := { s with heap := h₄, toks := tk₄ }) helt ok hA S₄) fun u s₅ z => z.casesOn fun X₅ μ₅ h₅ tk₅ e T₅ g₅ S₅ r₅ => e ▸ ?_
      refine (K₄.go T₅ g₅ (S₅.weak hbv)).append (s := { s with heap := h₅, toks := tk₅ }) hacc0 (Nat.le_trans (by rw [hy, List.length_append]; exact Nat.le_add_right _ _) hys) r₅ fun h₆ K₆ => ?_
      exact ⟨ds.length - (i + 1), by omega, i + 1, don ++ [y], q.1, own₃, X₅, μ₅, h₆, tk₅, by omega, rfl, K₆, e2 ▸ hgo2, by rw [hy, ← e1, List.append_assoc]; rfl⟩
    | false =>
      rw [if_neg Bool.false_ne_true]
      exact ⟨ds.length - (i + 1), by omega, i + 1, don, rest, own₂, X₄, μ₄, h₄, tk₄, by omega, rfl, K₄, hgo, hy⟩
  · rw [show ds.drop i = [] by rw [← hend]; exact List.drop_length] at hgo
    refine some_pair hgo fun e1 e2 => ?_
    rw [← e1, List.append_nil] at hy
    exact hfin X₁ μ₁ h₁ h₂ tk₂ (by rw [hend, hy, ← e2]; exact K) hk₂

inductive FinC (w : World) (base : Heap) (env : Env) (X μ : List Addr) (vs : Vars) (s : Shared) (own' : Own) (d : AV) (acc : Value) (C : Addr) (s' : Shared) : Prop
  | mk (X' μ' : List Addr) (h' : Heap) (tk : Tok) (e : s' = { s with heap := h', toks := tk }) (T : St (83 :: μ) X μ s.heap X' μ' h') (g : ∀ a ∈ X, a ∈ X') (S : SR w base env X' μ' vs own' h') (r : VR w h' X' μ' d acc) (c1 : C ∈ X') (c2 : C ∉ μ') (c3 : C ≠ 83) (c4 : s.heap.get? C = none) (c5 : ∃ o, h'.get? C = some o ∧ noC o) (c6 : ∃ m, h'.Ns C m)

theorem FinC.none {d : AV} {acc : Value} {C : Addr} {s' : Shared} {Q : Value → Shared → Prop} (S : SR w base env X μ vs own s.heap) (F : FinC w base env X μ vs s own' d acc C s') (hQ : ∀ s'', AftE w base env X μ vs s own' d acc s'' → Q acc s'') :
    compPost (model P0 w) A noE none Q acc C (.ok .next) s' :=
  F.casesOn fun X' μ' h' tk e T g S' r c1 c2 c3 c4 c5 c6 => e ▸ c6.elim fun m c6 => ⟨m, c6, fun h'' hsb => hQ _ ((late_drop (h'' := h'') S T g S'.core c1 c2 c3 c4 fun b o q e => hsb.extBut b o q e).casesOn fun C' T' g' S'' hk2 => ⟨_, μ', h'', tk, rfl, T', g', S'', r.mono hk2 ⟨[], (List.append_nil _).symm⟩⟩)⟩

theorem is_set {e : Expr} (h : isSet e = false) (env : Env) (x : Value) : foldedSetIterable e env x = pure x := by
  cases e <;> first | rfl | exact Bool.noConfusion h

noncomputable abbrev fvs (scope sc : Scope) (vs : Vars) : Vars := vs.filter fun v => scope.names.lookup v.1 == some .free && sc.names.lookup v.1 != some .local
theorem fvs_at {scope sc : Scope} {x : Str} {d : AV} (e : (fvs scope sc vs).lookup x = some d) : vs.lookup x = some d ∧ scope.names.lookup x = some .free ∧ sc.names.lookup x ≠ some .local :=
  (lookup_filter (p := fun x => scope.names.lookup x == some .free && sc.names.lookup x != some .local) e).imp id fun e => and_is e fun e1 e2 => ⟨eq_of_beq e1, bne_iff_ne.mp e2⟩
theorem comp_env {scope : Scope} {cl : List (Str × Addr)} {L : Addr} (ok : EnvOk env) (hk : scope.kind = .function) (hn : ∀ y ∈ scope.names, y.2 ≠ .cell) (cl1 : ∀ y ∈ scope.names, y.2 = .free → ∃ c, cl.lookup y.1 = some c) : EnvOk (compEnvC scope cl L env) where
  kind := hk
  globals := ok.globals
  builtins := ok.builtins
  cells := fun x hx => by
    have key : ∀ {k}, (compEnvC scope cl L env).kindOf x = some k → (k = .cell ∨ k = .free) → ∃ c, cl.lookup x = some c := fun e1 e2 => (lookup_relabel (sc := env.scope) e1).elim fun k₀ q =>
      have hm := lookup_mem q.1
      q.2.elim (fun z => e2.elim (fun y => absurd (z.symm.trans y) (hn _ hm)) fun y => cl1 _ hm (z.symm.trans y)) fun z => cl1 _ hm z.1
    exact hx.elim (fun q => key q (.inl rfl)) fun q => key q (.inr rfl)
  put := fun hp => (lookup_relabel (sc := env.scope) hp).elim fun k₀ q => q.2.elim (fun z => absurd z.symm (hn _ (lookup_mem q.1))) fun z => ok.put z.2.2

theorem comp_in {scope : Scope} {cl : List (Str × Addr)} {h₁ h₂ h₃ : Heap} {X₁ μ₁ : List Addr} {I acc L : Addr} {ds : List AV} {fp : List Addr} {P : Nat → Value → Prop} {Q : Nat → Heap → Prop} {m : Str → Option Value} (S : SR w base env X μ vs own s.heap) (T₁ : St (83 :: μ) X μ s.heap X₁ μ₁ h₁) (g₁ : ∀ a ∈ X, a ∈ X₁) (S₁ : SR w base env X₁ μ₁ vs own' h₁)
    (K₁ : Wk w A env.locals X₁ μ₁ h₁ I ds 0 fp P Q) (up₁ : ∀ b o, h₁.get? b = some o → h₂.get? b = some o) (up₂ : ∀ b o, h₂.get? b = some o → h₃.get? b = some o) (n₁ : h₁.get? acc = none) (n₂ : h₂.get? L = none) (l₁ : 83 ≤ acc) (l₂ : 83 ≤ L) (hacc : h₂.get? acc = some { cls := .type "list", data := .seq #[] }) (hns : h₃.Ns L m)
    (cl1 : ∀ y ∈ scope.names, y.2 = .free → ∃ c, cl.lookup y.1 = some c) (cl2 : ∀ x c, cl.lookup x = some c → env.cells.lookup x = some c) :
    CI w base A X μ s.heap (compEnvC scope cl L env) (fvs scope env.scope vs) I acc ds fp P Q 0 [] own' (L :: acc :: X₁) μ₁ h₃ := by
  obtain ⟨S₂, T₂⟩ := S₁.addX up₁ n₁ l₁ ⟨_, hacc⟩
  obtain ⟨C₃, T₃⟩ := S₂.core.addX up₂ n₂ l₂ (hns.imp fun _ r => r.elim fun _ r => r.elim fun _ r => r.1)
  have T₂₃ := T₂.trans83 (T₃ (83 :: μ₁))
  have has : ∀ b ∈ X₁, ∃ o, h₁.get? b = some o := fun b hb => S₁.core.has hb
  have neL : ∀ b, (∃ o, h₁.get? b = some o) → b ≠ L := fun b e q => e.elim fun o e => nn (n₂.symm.trans (up₁ _ _ (q ▸ e)))
  have neA : ∀ b, (∃ o, h₁.get? b = some o) → b ≠ acc := fun b e q => e.elim fun o e => nn (n₁.symm.trans (q ▸ e))
  have off : ∀ b ∈ fp, ∃ o, h₁.get? b = some o := fun b hb => (K₁.off b hb).2.2.2.imp fun _ r => r.1
  have apC := List.nodup_cons.mp C₃.apart
  have KL : Wk w A L X₁ μ₁ h₁ I ds 0 fp P Q := ⟨K₁.walks, K₁.at_, K₁.ex, K₁.inX, fun b hb => ⟨(K₁.off b hb).1, (K₁.off b hb).2.1, neL b (off b hb), (K₁.off b hb).2.2.2⟩, K₁.items⟩
  refine ⟨T₁.trans83 T₂₃, fun a ha => List.mem_cons_of_mem _ (List.mem_cons_of_mem _ (g₁ a ha)), ⟨C₃.stays, C₃.baseX, C₃.tabX, C₃.tab, C₃.own, C₃.subμ, List.nodup_cons.mpr ⟨fun q => (List.mem_cons.mp q).elim (neL 83 (has 83 S₁.tabX)) apC.1, List.nodup_cons.mpr ⟨fun q => neL _ (has _ (S₁.subμ _ q)) rfl, apC.2⟩⟩, List.mem_cons_self, ⟨_, hns, fun x d e k => absurd k (relabel_free (sc := env.scope) (fvs_at e).2.1)⟩, fun x d e k => ?_⟩,
    KL.step T₂₃ S₁.sub83 (fun b hb q => (List.mem_cons.mp q).elim (K₁.off b hb).2.1 (K₁.off b hb).1) (List.mem_cons_of_mem _ (List.mem_cons_of_mem _ K₁.inX)), List.mem_cons_of_mem _ List.mem_cons_self, fun q => neA _ (has _ (S₁.subμ _ q)) rfl, fun q => neA 83 (has 83 S₁.tabX) q.symm, fun q => nn (n₂.symm.trans (q ▸ hacc)), fun q => neA _ (off _ q) rfl, #[], ⟨0, up₂ _ _ hacc⟩, .nil⟩
  obtain ⟨e1, e2, e3⟩ := fvs_at e
  refine (S₁.cells x d e1 e3).imp' id fun c z => z.imp fun v z => ?_
  obtain ⟨c', g1⟩ := cl1 (x, .free) (lookup_mem e2) rfl
  have e5 : c' = c := Option.some.inj ((cl2 x c' g1).symm.trans z.1)
  exact ⟨e5 ▸ g1, IsCell.up z.2.1 fun o e => up₂ _ _ (up₁ _ _ e), z.2.2.1, z.2.2.2.1, neL c (z.2.1.imp fun _ r => r.1), T₂₃.vr S₁.sub83 z.2.2.2.2.2⟩

theorem comp_out {cenv : Env} {I acc : Addr} {ds ys : List AV} {fp : List Addr} {P : Nat → Value → Prop} {Q : Nat → Heap → Prop} {X₄ μ₄ : List Addr} {h₄ h₅ : Heap} {tk : Tok} {vf : Vars} {i : Nat} (S : SR w base env X μ vs own s.heap) (K₄ : CI w base A X μ s.heap cenv vf I acc ds fp P Q i ys own' X₄ μ₄ h₄) (hk₅ : ∀ b o, b ≠ I → h₄.get? b = some o → h₅.get? b = some o)
    (hI0 : s.heap.get? I = none) (hacc0 : s.heap.get? acc = none) (hC0 : s.heap.get? cenv.locals = none) : FinC w base env X μ vs s own' (.lst ys) (.ref acc) cenv.locals { s with heap := h₅, toks := tk } := by
  have offI := K₄.wk.off I K₄.wk.mem
  have hIacc : acc ≠ I := fun q => K₄.accfp (q ▸ K₄.wk.mem)
  have hIC : cenv.locals ≠ I := fun q => offI.2.2.1 q.symm
  refine (late_drop S K₄.T K₄.sub K₄.sr.core K₄.wk.inX offI.1 offI.2.1 hI0 hk₅).casesOn fun C₅ T₅ g₅ S₅ up₅ => (late_drop (h'' := h₅) S T₅ g₅ C₅ (mem_rmv K₄.accX hIacc) K₄.accμ K₄.acc83 hacc0 fun b o _ e => e).casesOn fun C₆ T₆ g₆ S₆ up₆ => ?_
  have hm : ∃ ν, μ₄ = μ₄ ++ ν := ⟨[], (List.append_nil _).symm⟩
  have hns₄ : ∃ m, h₅.Ns cenv.locals m := K₄.sr.ns.imp fun m q => q.1.at fun o e => hk₅ _ o hIC e
  exact K₄.us.elim fun us q => ⟨_, μ₄, h₅, tk, rfl, T₆, g₆, S₆, .lst (q.1.up fun o => hk₅ _ o hIacc) (fun q => (of_rmv q).2 rfl) ((q.2.mono up₅ hm).mono up₆ hm), mem_rmv (mem_rmv K₄.sr.locX hIC) (fun q => K₄.accC q.symm), K₄.sr.a3, fun q => K₄.sr.a1 q.symm, hC0, hns₄.elim fun m r => r.elim fun o r => r.elim fun es r => r.elim fun ep r => ⟨o, r.1, fun v e => Data.noConfusion (r.2.1.symm.trans e)⟩, hns₄⟩

theorem comp_ok {R : Rec} (G : Gd w base mg mb) (hE : SE w base n R.e) (hT : ST w base n R.t) (ok : EnvOk env) (hA : Room A n) {elt : Expr} {g : Comprehension} {scope : Scope} {pos : Pos} {d : AV} {use : Option (Value → Sem Unit)} {Q : Value → Shared → Prop}
    (h : R.comp env.scope vs own elt g scope = some (d, own')) (S : SR w base env X μ vs own s.heap) (hfin : ∀ acc C s', FinC w base env X μ vs s own' d acc C s' → compPost (model P0 w) A noE use Q acc C (.ok .next) s') :
    wpAny (model P0 w) A (comprehension (.ListComp elt [g] scope pos) scope env (firstIterPos [g] pos) (newList []) (firstAsync [g]) (firstIter [g] env) use) Q noE s := by
  obtain ⟨target, iter, ifs, as⟩ := g
  refine ite_then h fun hc h => and_is hc fun hc hnames => and_is hc fun hc hkind => and_is hc fun ha hset => bind_two h fun ds own₁ h1 h2 => bind_two h2 fun ys own₂ h3 h4 => ite_then h4 fun hys h4 => sp h4 (fun hfin h3 => ?_) hfin h3
  have ha : as = 0 := eq_of_beq ha
  subst ha
  have hkind := eq_of_beq hkind
  have hset : isSet iter = false := Bool.not_inj (hset.trans rfl)
  have hn : ∀ y ∈ scope.names, y.2 ≠ .cell ∧ (y.2 = .free → ∃ c, env.cells.lookup y.1 = some c) ∧ (y.2 = .local → scope.names.lookup y.1 = some .local) := fun y hy => and_is (List.all_eq_true.mp hnames y hy) fun q q3 => and_is q fun q1 q2 =>
    ⟨bne_iff_ne.mp q1, fun hf => ok.cells y.1 (((Bool.or_eq_true _ _).mp q2).elim (fun z => ((Bool.or_eq_true _ _).mp z).elim (fun z => absurd hf (bne_iff_ne.mp z)) fun z => .inl (eq_of_beq z)) fun z => .inr (eq_of_beq z)), fun hl => ((Bool.or_eq_true _ _).mp q3).elim (fun z => absurd hl (bne_iff_ne.mp z)) eq_of_beq⟩
  obtain ⟨cl, hcl, cl1, cl2⟩ := closure_ok fun y hy hf => (hn y hy).2.1 hf
  refine wpAny_comprehension_free (g := ⟨target, iter, ifs, 0⟩) (gs := []) rfl (is_set hset env) hcl hkind (fun y hy hl => (hn y hy).2.2 hl) ?_
  refine wm (ev_src G hE ok hA h1 S) fun x s₁ hx => wm hx fun it s₂ z => z.casesOn fun I fp P Qs X₁ μ₁ h₁ tk₁ ei e T₁ g₁ S₁ K₁ hI0 => ?_
  subst ei e
  refine wpAny_newList (wpAny_newFunctionEnv (fun y hy => (hn y hy).1) (fun y hy => (List.not_mem_nil hy).elim) (fun h₃ hns hsb => ?_) hkind)
  have hn₁ := get?_size h₁
  have hacc : (h₁.push { cls := .type "list", data := .seq #[] }).get? h₁.objs.size = some { cls := .type "list", data := .seq #[] } := Heap.get?_push_size _ rfl
  have up₁ : ∀ b o, h₁.get? b = some o → (h₁.push { cls := .type "list", data := .seq #[] }).get? b = some o := fun b o e => Heap.get?_push_of_some _ e
  have big : 83 ≤ (h₁.push { cls := .type "list", data := .seq #[] }).objs.size := Nat.le_of_lt (Nat.lt_trans S₁.big (Heap.lt_size hacc))
  change codeAny _ A (.compStart _ 0 (.ref I) (.ref h₁.objs.size) (compEnvC scope cl (h₁.push { cls := .type "list", data := .seq #[] }).objs.size env)) (compPost (model P0 w) A noE use Q (.ref h₁.objs.size) (h₁.push { cls := .type "list", data := .seq #[] }).objs.size) { s with heap := h₃, toks := tk₁ }
  change h₃.Ns (h₁.push { cls := .type "list", data := .seq #[] }).objs.size _ at hns
  change Heap.SameBut (h₁.push { cls := .type "list", data := .seq #[] }).objs.size _ h₃ at hsb
  generalize (h₁.push { cls := .type "list", data := .seq #[] }) = h₂ at *
  have hn₂ := get?_size h₂
  have up₂ : ∀ b o, h₂.get? b = some o → h₃.get? b = some o := fun b o e => hsb.extBut b o (fun q => nn (hn₂.symm.trans (q ▸ e))) (Heap.get?_push_of_some _ e)
  have K₃ := comp_in (scope := scope) (cl := cl) S T₁ g₁ S₁ K₁ up₁ up₂ hn₁ hn₂ (Nat.le_of_lt S₁.big) big hacc hns cl1 cl2
  have hacc0 : s.heap.get? h₁.objs.size = none := T₁.live _ hn₁
  have hC0 : s.heap.get? h₂.objs.size = none := T₁.live _ (up_no (up₁ _) hn₂)
  have loop := comp_loop (s := { s with heap := h₃, toks := tk₁ }) (R := R) (elt := elt) (target := target) (iter := iter) (ifs := ifs) (scope := scope) (pos := pos) (RR := compPost (model P0 w) A noE use Q (.ref h₁.objs.size) h₂.objs.size) hE hT (comp_env ok hkind (fun y hy => (hn y hy).1) cl1) hA (fun x d e => relabel_free (sc := env.scope) (fvs_at e).2.1) hI0 hacc0 hC0 hys K₃ h3 fun X₄ μ₄ h₄ h₅ tk₅ K₄ hk₅ => hfin _ _ _ (comp_out S K₄ hk₅ hI0 hacc0 hC0)
  exact codeAny_compStart_list loop (K₃.wk.walks.self 0 _ _ _ K₃.wk.at_ loop)
end

section
variable {w : World} {base : Heap} {mg mb : Str → Option Value} {env : Env} {X μ : List Addr} {vs vs' : Vars} {own own' : Own} {A : Around} {s : Shared} {n : Nat}

theorem ev_listcomp {R : Rec} (G : Gd w base mg mb) (hE : SE w base n R.e) (hT : ST w base n R.t) (ok : EnvOk env) (hA : Room A n) {elt : Expr} {g : Comprehension} {scope : Scope} {pos : Pos} {d : AV}
    (h : R.comp env.scope vs own elt g scope = some (d, own')) (S : SR w base env X μ vs own s.heap) : wpAny (model P0 w) A (eval (.ListComp elt [g] scope pos) env) (AftE w base env X μ vs s own' d) noE s := by
  rw [eval_ListComp]
  exact comp_ok G hE hT ok hA h S fun acc C s' F => F.none S fun s'' q => q

theorem SRs.drop {h h' : Heap} {I : Addr} (S : SRs w base env X μ vs own h) (hk : ∀ b o, b ≠ I → h.get? b = some o → h'.get? b = some o) (hX : I ∈ X) (hμ : I ∉ μ) (h83 : I ≠ 83) (hL : I ≠ env.locals) (hc : ∀ x c, env.cells.lookup x = some c → c ≠ I) :
    SRs w base env (rmv I X) μ vs own h' :=
  have CU := S.sr.core.drop hk hX hμ h83
  have hm : ∃ ν, μ = μ ++ ν := ⟨[], (List.append_nil _).symm⟩
  ⟨⟨CU.1.stays, CU.1.baseX, CU.1.tabX, CU.1.tab, CU.1.own, CU.1.subμ, S.sr.apart, mem_rmv S.sr.locX hL.symm, S.sr.ns.imp fun m q => ⟨q.1.at fun o e => hk _ o hL.symm e, fun x d e k => (q.2 x d e k).imp fun v r => ⟨r.1, r.2.mono CU.2 hm⟩⟩,
    fun x d e k => (S.sr.cells x d e k).imp fun c z => z.imp fun v z => ⟨z.1, IsCell.up z.2.1 fun o => hk c o (hc x c z.1), z.2.2.1, z.2.2.2.1, z.2.2.2.2.1, z.2.2.2.2.2.mono CU.2 hm⟩⟩, fun q x c e => mem_rmv (S.cin q x c e) (hc x c e), fun x c e => ⟨(S.cat x c e).1.imp fun v r => IsCell.up r fun o => hk c o (hc x c e), (S.cat x c e).2⟩, S.cinj, S.cmem⟩

theorem SRs.cellNe {h : Heap} (S : SRs w base env X μ vs own h) {I : Addr} {o : Obj} (ho : h.get? I = some o) (hn : noC o) : ∀ x c, env.cells.lookup x = some c → c ≠ I := fun x c e q =>
  (S.cat x c e).1.elim fun v r => r.elim fun o' r => hn v (Option.some.inj (r.1.symm.trans (show h.get? c = some o from q ▸ ho)) ▸ r.2)

theorem SRs.subWS {h : Heap} (S : SRs w base env X μ vs own h) (hn : noClo vs = true) : ∀ a ∈ WS env μ, a ∈ X := fun a ha =>
  (mem_WS ha).elim (fun q => q ▸ S.sr.tabX) fun ha => ha.elim (fun q => q ▸ S.sr.locX) fun ha => ha.elim (fun q => (S.cmem a q).elim fun x e => S.cin hn x a e) (S.sr.subμ a)

theorem SRs.notWS {h : Heap} (S : SRs w base env X μ vs own h) {b : Addr} {o : Obj} (h1 : b ∉ μ) (h2 : b ≠ 83) (h3 : b ≠ env.locals) (ho : h.get? b = some o) (hn : noC o) : b ∉ WS env μ := fun ha =>
  (mem_WS ha).elim h2 fun ha => ha.elim h3 fun ha => ha.elim (fun q => (S.cmem b q).elim fun x e => S.cellNe ho hn x b e rfl) h1

theorem lookup_take {α : Type} {l : List (Str × α)} {k : Nat} {x : Str} {d : α} (e : (l.take k).lookup x = some d) : l.lookup x = some d := by
  induction l generalizing k with
  | nil => cases k <;> exact nn e
  | cons p l ih =>
    cases k with
    | zero => exact nn e
    | succ k => exact lookup_cases (show ((p.1, p.2) :: l.take k).lookup x = some d from e) (fun e1 e2 => e1 ▸ e2 ▸ lookup_self _ _ _) fun e1 e => (lookup_ne e1 _ _).trans (ih e)
theorem SRs.take {h : Heap} (S : SRs w base env X μ vs own h) (hn : noClo vs = true) (k : Nat) : SRs w base env X μ (vs.take k) own h := ⟨S.sr.weak fun _ _ => lookup_take, fun _ => S.cin hn, S.cat, S.cinj, S.cmem⟩

structure S1 (w : World) (base : Heap) (n : Nat) (f : Scope → Vars → Own → Stmt → Option (Fl × Vars × Own)) : Prop where
  ok : ∀ {env : Env} {X μ : List Addr} {vs vs' : Vars} {own : Own} {st : Stmt} {fl : Fl} {own' : Own} {A : Around} {s : Shared}, f env.scope vs own st = some (fl, vs', own') → EnvOk env → Room A n → SRs w base env X μ vs own s.heap →
    wpAny (model P0 w) A (exec st env) (AftS w base env X μ s vs' own' fl) noE s

theorem st_ss {R : Rec} (h1 : S1 w base n (stepS R)) (ok : EnvOk env) (hA : Room A n) {ss : List Stmt} {X μ : List Addr} {vs : Vars} {own : Own} {s : Shared} {fl : Fl} (h : stepSs R env.scope vs own ss = some (fl, vs', own')) (S : SRs w base env X μ vs own s.heap) :
    wpAny (model P0 w) A (execs ss env) (AftS w base env X μ s vs' own' fl) noE s := by
  induction ss generalizing X μ vs own s with
  | nil => exact s3 h (wpAny_execs_nil ⟨X, μ, s.heap, s.toks, rfl, .refl, fun _ e _ => e, S, rfl⟩)
  | cons st ss ih =>
    refine bind_any h fun r e1 e2 => ?_
    obtain ⟨f1, vs₁, own₁⟩ := r
    refine wpAny_execs_cons (wm (h1.ok e1 ok hA S) fun f s₁ q => q.casesOn fun X₁ μ₁ h₁ tk₁ e T₁ g₁ S₁ hf => ?_)
    cases f1 with
    | next =>
      have hf : f = .next := hf
      subst hf e
      exact wm (ih (s := { s with heap := h₁, toks := tk₁ }) e2 S₁) fun f s₂ q => AftS.from T₁ g₁ q
    | ret d =>
      obtain ⟨v, hv, r⟩ := hf
      subst hv
      exact s3 e2 ⟨X₁, μ₁, h₁, tk₁, e, T₁, g₁, S₁, v, rfl, r⟩

theorem AftS.ofV {s' : Shared} (q : AftV w base env X μ s vs' own' s') : AftS w base env X μ s vs' own' .next .next s' := q.casesOn fun X' μ' h' tk e T g S' => ⟨X', μ', h', tk, e, T, fun a ha _ => g a ha, S', rfl⟩

theorem no_swap {value : Expr} (h : isComp value = false) (t : Option Expr) (line : Nat) (env : Env) : swapsWith value t line env = pure false := by
  cases value <;> first | rfl | exact Bool.noConfusion h

theorem AftV.store {x : Str} {v : Value} {d : AV} {X₁ μ₁ : List Addr} {h₁ : Heap} {tk₁ : Tok} (ok : EnvOk env) (S : SRs w base env X μ vs own s.heap) (hk : kindV env.scope x = true) (hp : putOk env.scope vs x = true) (T : St (83 :: μ) X μ s.heap X₁ μ₁ h₁) (g : ∀ a ∈ X, a ∈ X₁) (S₁ : SR w base env X₁ μ₁ vs own' h₁) (r : VR w h₁ X₁ μ₁ d v) :
    wpAny (model P0 w) A (storeName env x v) (fun _ s' => AftV w base env X μ s (setV x d vs) own' s') noE { s with heap := h₁, toks := tk₁ } := by
  exact wm ((S.ofE T g S₁).store (s := { s with heap := h₁, toks := tk₁ }) ok hk hp r) fun _ s' q => q.casesOn fun h' tk e T' S' => ⟨X₁, μ₁, h', tk, e, (T.wider sub_WS).transW T', g, S'⟩

theorem st_comp {R : Rec} (G : Gd w base mg mb) (hE : SE w base n R.e) (hT : ST w base n R.t) (ok : EnvOk env) (hA : Room A n) {x : Str} {p p' pos : Pos} {elt : Expr} {g : Comprehension} {scope : Scope} {d : AV}
    (hk : kindV env.scope x = true) (hp : putOk env.scope vs x = true) (hsw : (env.scope.names.lookup x == some .local && p.line == p'.line && !(scope.names.any fun (n, k) => n == x && (k == .local || k == .cell))) = true)
    (h : R.comp env.scope vs own elt g scope = some (d, own')) (S : SRs w base env X μ vs own s.heap) :
    wpAny (model P0 w) A (exec (.Assign [.Name x p] (.ListComp elt [g] scope p') pos) env) (AftS w base env X μ s (setV x d vs) own' .next) noE s := by
  have hs : swapsWith (.ListComp elt [g] scope p') (some (.Name x p)) pos.line env = pure true := by
    have hb : env.blockKind = .function := by unfold Env.blockKind; rw [ok.kind]; rfl
    have hk : env.kindOf x = some .local := eq_of_beq (and_is (and_is hsw fun a _ => a) fun a _ => a)
    show (pure (env.blockKind == .function && env.kindOf x == some .local && p.line == p'.line && !(scope.names.any fun (n, k) => n == x && (k == .local || k == .cell))) : Sem Bool) = pure true
    rw [hb]
    exact congrArg pure hsw
  rw [exec_Assign_Name_used x p _ pos hs]
  refine wpAny_bind (wpAny_standAt (wpAny_bind ?_))
  show wpAny _ A (do let _ ← comprehension (.ListComp elt [g] scope p') scope env (firstIterPos [g] p') (newList []) (firstAsync [g]) (firstIter [g] env) (some (assign (.Name x p) env))) _ _ s
  refine wpAny_bind (comp_ok G hE hT ok hA h S.sr fun acc C s' F => F.casesOn fun X' μ' h' tk e T g S' r c1 c2 c3 c4 c5 c6 => c5.elim fun oC c5 => c6.elim fun m c7 => ?_)
  subst e
  have Ss := S.ofE T g S'
  have hL : C ≠ env.locals := fun q => (S.sr.core.has S.sr.locX).elim fun o e => nn (c4.symm.trans (q ▸ e))
  refine wpAny_assign_Name (wm (Ss.store (s := { s with heap := h', toks := tk }) ok hk hp r) fun _ s₂ z => z.casesOn fun h₂ tk₂ e T₂ S₂ => ?_)
  subst e
  have hCW : C ∉ WS env μ' := Ss.notWS c2 c3 hL c5.1 c5.2
  refine ⟨m, c7.at fun o e => T₂.keep _ o e hCW, fun h₃ hsb => wpAny_pure (wpAny_pure ?_)⟩
  have hk₃ : ∀ b o, b ≠ C → h₂.get? b = some o → h₃.get? b = some o := fun b o q e => hsb.extBut b o q e
  exact ⟨_, μ', h₃, tk₂, rfl, late_St ((T.wider sub_WS).transW T₂) c4 hk₃, fun a ha _ => mem_rmv (g a ha) fun q => (S.sr.core.has ha).elim fun o e => nn (c4.symm.trans (q ▸ e)), S₂.drop hk₃ c1 c2 c3 hL (S₂.cellNe (T₂.keep _ _ c5.1 hCW) c5.2), rfl⟩
end

section
variable {w : World} {base : Heap} {mg mb : Str → Option Value} {env : Env} {X μ : List Addr} {vs vs' : Vars} {own own' : Own} {A : Around} {s : Shared} {n : Nat}

inductive Mid (w : World) (base : Heap) (env : Env) (X μ : List Addr) (s : Shared) (R : Vars → Own → List Addr → List Addr → Heap → Prop) (s' : Shared) : Prop
  | mk (X₁ μ₁ : List Addr) (vs₁ : Vars) (own₁ : Own) (h₁ : Heap) (tk₁ : Tok) (e : s' = { s with heap := h₁, toks := tk₁ }) (T : St (WS env μ) X μ s.heap X₁ μ₁ h₁) (g : ∀ a ∈ X, a ∉ cellsOf env → a ∈ X₁) (S : SRs w base env X₁ μ₁ vs₁ own₁ h₁) (r : R vs₁ own₁ X₁ μ₁ h₁)

theorem st_while {R : Rec} (hT : ST w base n R.t) (hS : SSs w base n R.ss) (ok : EnvOk env) (hA : Room A n) {t : Expr} {b : List Stmt} {pos : Pos} {fl : Fl}
    (h : whileGo (fun vs own => R.t env.scope vs own t) (fun vs own => R.ss env.scope vs own b) turns vs own = some (fl, vs', own')) (S : SRs w base env X μ vs own s.heap) :
    wpAny (model P0 w) A (exec (.While t b [] pos) env) (AftS w base env X μ s vs' own' fl) noE s := by
  refine wpAny_While (codeAny_whileLoop (fun k s' => Mid w base env X μ s (fun vs₁ own₁ _ _ _ => whileGo (fun vs own => R.t env.scope vs own t) (fun vs own => R.ss env.scope vs own b) k vs₁ own₁ = some (fl, vs', own')) s')
    (fun k s' m => m.casesOn fun X₁ μ₁ vs₁ own₁ h₁ tk₁ e T₁ g₁ S₁ hgo => ?_) turns ⟨X, μ, vs, own, s.heap, s.toks, rfl, .refl, fun _ e _ => e, S, h⟩)
  cases k with
  | zero => exact nn hgo
  | succ k =>
    subst e
    refine bind_two hgo fun c own₂ e1 e2 => wme (hT.ok (s := { s with heap := h₁, toks := tk₁ }) e1 ok hA S₁.sr) fun v s₂ q => q.casesOn fun X₂ μ₂ h₂ tk₂ e T₂ g₂ S₂ r₂ => ?_
    subst e r₂
    have S₂ := S₁.ofE T₂ g₂ S₂
    have T₂ := T₁.transW (T₂.wider sub_WS)
    have g₂ : ∀ a ∈ X, a ∉ cellsOf env → a ∈ X₂ := fun a ha hc => g₂ a (g₁ a ha hc)
    cases v with
    | false => exact s3 e2 (wpAny_execs_nil ⟨X₂, μ₂, h₂, tk₂, rfl, T₂, g₂, S₂, rfl⟩)
    | true =>
      refine bind_any e2 fun r e3 e4 => ?_
      obtain ⟨f1, vs₃, own₃⟩ := r
      refine wme (hS.ok (s := { s with heap := h₂, toks := tk₂ }) e3 ok hA S₂) fun f s₃ q => q.casesOn fun X₃ μ₃ h₃ tk₃ e T₃ g₃ S₃ hf => ?_
      have g₃ : ∀ a ∈ X, a ∉ cellsOf env → a ∈ X₃ := fun a ha hc => g₃ a (g₂ a ha hc) hc
      cases f1 with
      | next =>
        have hf : f = .next := hf
        subst hf
        exact ite_then e4 fun hc e4 => ⟨k, Nat.lt_succ_self k, X₃, μ₃, vs₃.take vs₁.length, own₃, h₃, tk₃, e, T₂.transW T₃, g₃, S₃.take hc _, e4⟩
      | ret d =>
        obtain ⟨v, hv, r⟩ := hf
        subst hv
        exact s3 e4 ⟨X₃, μ₃, h₃, tk₃, e, T₂.transW T₃, g₃, S₃, v, rfl, r⟩

theorem for_turn {R : Rec} (hS : SSs w base n R.ss) (ok : EnvOk env) (hA : Room A n) {x : Str} {b : List Stmt} {fl : Fl} {d : AV} {ds : List AV} {I : Addr} {i : Nat} {fp : List Addr} {P : Nat → Value → Prop} {Qs : Nat → Heap → Prop} {v : Value} {ovs : Vars} {oown : Own} {Q : Flow → Shared → Prop} {E₁ E₂ : Value → Shared → Prop} {p : Pos} (hk : kindV env.scope x = true)
    (hgo : forGo x (fun vs own => R.ss env.scope vs own b) (d :: ds) vs own = some (fl, ovs, oown)) (hn : noClo vs = true) {dss : List AV} (S : SRs w base env X μ vs own s.heap) (K : Wk w A env.locals X μ s.heap I dss i fp P Qs) (r : VR w s.heap X μ d v)
    (hnext : ∀ X' μ' vs' own' h' tk, St (WS env μ) X μ s.heap X' μ' h' → (∀ a ∈ X, a ∉ cellsOf env → a ∈ X') → SRs w base env X' μ' vs' own' h' → noClo vs' = true → Wk w A env.locals X' μ' h' I dss i fp P Qs → forGo x (fun vs own => R.ss env.scope vs own b) ds vs' own' = some (fl, ovs, oown) → Q .next { s with heap := h', toks := tk })
    (hret : ∀ f s', AftS w base env X μ s ovs oown fl f s' → (∃ v, f = .ret v) → Q f s') : wpAny (model P0 w) A (assign (.Name x p) env v) (fun _ s' => wpAny (model P0 w) A (execs b env) Q E₁ s') E₂ s := by
  refine bind_any hgo fun q e1 e2 => ?_
  obtain ⟨f1, vs₄, own₄⟩ := q
  have hput : putOk env.scope vs x = true := (Bool.or_eq_true _ _).mpr (.inr hn)
  have hfp : ∀ {X' μ' vs own h' ds i}, SRs w base env X' μ' vs own h' → Wk w A env.locals X' μ' h' I ds i fp P Qs → ∀ b ∈ fp, b ∉ WS env μ' := fun S K b hb =>
    (K.off b hb).2.2.2.elim fun o z => S.notWS (K.off b hb).1 (K.off b hb).2.1 (K.off b hb).2.2.1 z.1 z.2
  refine wpAny_assign_Name (wme (S.store ok hk hput r) fun _ s₄ z => z.casesOn fun h₄ tk₄ e T₄ S₄ => ?_)
  subst e
  have K₄ := K.step T₄ (S.subWS hn) (hfp S K) K.inX
  refine wme (hS.ok (s := { s with heap := h₄, toks := tk₄ }) e1 ok hA S₄) fun f s₅ z => z.casesOn fun X₅ μ₅ h₅ tk₅ e T₅ g₅ S₅ hf => ?_
  have T₅' := T₄.transW T₅
  cases f1 with
  | next =>
    have hf : f = .next := hf
    subst hf e
    refine ite_then e2 fun hc e2 => hnext X₅ μ₅ _ own₄ h₅ tk₅ T₅' g₅ (S₅.take hc _) (List.all_eq_true.mpr fun v hv => List.all_eq_true.mp hc v (List.mem_of_mem_take hv)) (K₄.step T₅ (S.subWS hn) (hfp S₄ K₄) (g₅ I K₄.inX fun q => (hfp S₄ K₄) I K₄.mem (List.mem_cons_of_mem _ (List.mem_cons_of_mem _ (List.mem_append_left _ q))))) e2
  | ret d =>
    obtain ⟨v, hv, r⟩ := hf
    exact hret f s₅ (s3 e2 ⟨X₅, μ₅, h₅, tk₅, e, T₅', g₅, S₅, v, hv, r⟩) ⟨v, hv⟩

theorem st_for {R : Rec} (G : Gd w base mg mb) (hE : SE w base n R.e) (hS : SSs w base n R.ss) (ok : EnvOk env) (hA : Room A n) {x : Str} {p : Pos} {it : Expr} {b : List Stmt} {pos : Pos} {fl : Fl} {ds : List AV} {own₁ : Own} (hk : kindV env.scope x = true) (hn : noClo vs = true) (hset : isSet it = false)
    (h1 : R.src env.scope vs own it = some (ds, own₁)) (h2 : forGo x (fun vs own => R.ss env.scope vs own b) ds vs own₁ = some (fl, vs', own')) (S : SRs w base env X μ vs own s.heap) :
    wpAny (model P0 w) A (exec (.For (.Name x p) it b [] pos) env) (AftS w base env X μ s vs' own' fl) noE s := by
  refine wpAny_For (wm (ev_src G hE ok hA h1 S.sr) fun y s₁ hy => wm hy fun iv s₂ z => z.casesOn fun I fp P Qs X₁ μ₁ h₁ tk₁ ei e T₁ g₁ S₁ K₁ hI0 => ?_) (is_set hset env)
  subst ei e
  refine codeAny_forLoop_any (fun k s' => Mid w base env X μ s (fun vs₂ own₂ X₂ μ₂ h₂ => ∃ i, i + k = ds.length ∧ noClo vs₂ = true ∧ Wk w A env.locals X₂ μ₂ h₂ I ds i fp P Qs ∧ forGo x (fun vs own => R.ss env.scope vs own b) (ds.drop i) vs₂ own₂ = some (fl, vs', own')) s')
    (fun k s' m => m.casesOn fun X₂ μ₂ vs₂ own₂ h₂ tk₂ e T₂ g₂ S₂ z => z.elim fun i z => ?_) ds.length ⟨X₁, μ₁, vs, own₁, h₁, tk₁, rfl, T₁.wider sub_WS, fun a ha _ => g₁ a ha, S.ofE T₁ g₁ S₁, 0, Nat.zero_add _, hn, K₁, h2⟩
  subst e
  obtain ⟨hik, hn₂, K₂, hgo⟩ := z
  have off := K₂.off I K₂.mem
  obtain ⟨oI, hoI, hnI⟩ := off.2.2.2
  have wI : ∀ a ∈ [I], a ∈ X₂ := fun a ha => List.mem_singleton.mp ha ▸ K₂.inX
  refine wme (K₂.next (s := { s with heap := h₂, toks := tk₂ }) (E := noE) S₂.sr.core (by omega) (fun v d h₃ tk₃ hd r K₃ C₃ hk₃ he₃ => he₃.elim fun oi₃ he₃ => ?_) fun hend h₃ tk₃ hk₃ => ?_) fun _ _ e => e
  · have T₃ := (S₂.sr.core.touch hk₃ K₂.inX off.1 off.2.1 ⟨oi₃, he₃.1⟩).2 [I] (List.mem_singleton.mpr rfl)
    have S₃ : SRs w base env X₂ μ₂ vs₂ own₂ h₃ := S₂.ofT T₃ (fun y c e q => S₂.cellNe hoI hnI y c e (List.mem_singleton.mp q)) (fun _ _ _ _ e => e) (S₂.sr.back' T₃ wI (fun q => off.2.2.1 (List.mem_singleton.mp q).symm) (S₂.sr.notW hoI hnI) S₂.sr.locX C₃)
    have T₃' : St (WS env μ) X μ s.heap X₂ μ₂ h₃ := T₂.trans T₃ fun a ha => .inr (List.mem_singleton.mp ha ▸ hI0)
    rw [drop_at hd] at hgo
    have hlt : i < ds.length := (List.getElem?_eq_some_iff.mp hd).1
    refine he₃.2.go he₃.1 (for_turn (s := { s with heap := h₃, toks := tk₃ }) hS ok hA hk hgo hn₂ S₃ K₃ r (fun X' μ' vs₅ own₅ h' tk T g S hn K e2 => ?_) fun f s' q hf => ?_)
    · exact ⟨ds.length - (i + 1), by omega, X', μ', vs₅, own₅, h', tk, rfl, T₃'.transW T, fun a ha hc => g a (g₂ a ha hc) hc, S, i + 1, by omega, hn, K, e2⟩
    · exact hf.elim fun v hf => hf ▸ AftS.from T₃' g₂ (hf ▸ q)
  · rw [show ds.drop i = [] by rw [← hend]; exact List.drop_length] at hgo
    exact s3 hgo (fun S₂ => wpAny_execs_nil ⟨_, μ₂, h₃, tk₃, rfl, late_St T₂ hI0 hk₃, fun a ha hc => mem_rmv (g₂ a ha hc) fun q => (S.sr.core.has ha).elim fun o e => nn (hI0.symm.trans (q ▸ e)), S₂.drop hk₃ K₂.inX off.1 off.2.1 off.2.2.1 (S₂.cellNe hoI hnI), rfl⟩) S₂
end

section
variable {w : World} {base : Heap} {mg mb : Str → Option Value} {env : Env} {X μ : List Addr} {vs vs' : Vars} {own own' : Own} {A : Around} {s : Shared} {n : Nat}

noncomputable def noneKind (w : World) : PySem.KeyKind P0 w Unit where
  is := fun _ v => v == .none
  hash := fun _ => 0xFCA86420
  inj := fun _ _ _ _ _ => rfl
  byValue := fun _ v h => by rw [eq_of_beq h]; rfl
  pyHash := fun {A E s k v Q} hv h => by rw [eq_of_beq hv]; exact wp_hash_none h
  eqBool := fun {A E s a b u v Q} hu hv h => by
    rw [eq_of_beq hu, eq_of_beq hv]
    exact wpAny_bind (wpAny_rule (wpAny_pure (by simpa using h)))
  «strs» := fun k x t v h => by cases h

theorem empty_any {h : Heap} {d : Addr} (x : h.DictOf (PySem.strKind P0 w) d []) : h.DictOf (noneKind w) d [] := by
  obtain ⟨o, es, ep, ho, hx, hd, hk, hp, hn⟩ := x
  have e : es = #[] := Array.eq_empty_of_size_eq_zero hp.length
  rw [e] at hd
  exact ⟨o, #[], ep, ho, hx, hd, fun _ h => absurd h (Array.not_mem_empty _), .nil, .nil⟩

noncomputable def putFd (fd : FuncData) (p : Arguments) (d : Value) : FuncData := { fd with params := p, defaults := d }
theorem put_bind {fd : FuncData} {q : Pos} (hp : fd.params = ⟨[], [⟨Str.ofString "region", none, q⟩], none, [], [], none, []⟩) (hd : fd.defaults = .none) (v : Value) : bindArgs fd ⟨[v], []⟩ = pure [(Str.ofString "region", v)] := by
  have e : fd = putFd fd fd.params fd.defaults := rfl
  rw [e, hp, hd]
  kernel_rfl

theorem call_clo (G : Gd w base mg mb) {v : Value} (hA : Room A (n + 1)) (C : Core w base X μ own s.heap) (r : VR w s.heap X μ (.clo (.dct [])) v) :
    wpAny (model P0 w) A (call v [.none] []) (AftC w base X μ s own .none) noE s := by
  refine r.cloI fun a z => z.casesOn fun c cc o fd u h1 h2 h3 h4 h5 h6 h7 ru => ?_
  obtain ⟨pq, hpar⟩ := h4.params
  obtain ⟨q1, q2, q3, q4, q5, q6, hline, hbody⟩ := h4.body
  refine wpAny_call (codeAny_call_function (room_depth hA) h1 h3 (by rw [h4.scope]) (by rw [h4.scope]) hbody (by rw [h5, h4.qual]; exact h6) ?_)
  rw [put_bind hpar h4.dflt, h4.scope, h4.closure, h4.globals, h4.builtins]
  refine wpAny_pure (wpAny_newFunctionEnv (fun x hx => (List.mem_cons.mp hx).elim (fun e => by rw [e]; decide) fun hx => by rw [List.mem_singleton.mp hx]; decide) (fun x hx => by rw [List.mem_singleton.mp hx]; decide +kernel) (fun h' hns hsb => ?_) rfl)
  have hnone := get?_size s.heap
  have hk : ∀ b o, s.heap.get? b = some o → h'.get? b = some o := fun b o e => hsb.extBut b o (fun q => nn (hnone.symm.trans (q ▸ e))) (Heap.get?_push_of_some _ e)
  refine ⟨G.lim.keeps fun b o e => hk b o (C.stays b o e), codeAny_func (wpAny_execs_cons (wpAny_Return_some ?_))⟩
  refine wme (Q' := fun v s' => ∃ tk, v = .none ∧ s' = { s with heap := h', toks := tk }) ?_ (fun v s' q => q.elim fun tk q => ?_)
  · refine wpAny_Call_method (T := "dict") (id := "dict.get") (attr_base ..) rfl hline F.plainAttrs_dict F.slot_dict_get F.type_dict_get (wpAny_Name (wpAny_loadName_free rfl (by show putScope.names.lookup (Str.ofString "regions") = some .free; decide +kernel) (c := c) (v := u) (lookup_self _ _ _) (IsCell.up h7 fun o => hk _ o) ?_ (by decide +kernel)) (by decide +kernel))
    refine ru.dctI fun d kvs hd hX hsy hkk => hkk.nilI (N := fun kvs => s.heap.DictOf (PySem.strKind P0 w) d kvs → _) (fun hd => ?_) hd
    have hd' : h'.DictOf (PySem.strKind P0 w) d [] := DictOf.up hd fun o => hk _ o
    have hreg : (fun x => List.lookup x ([(Str.ofString "region", Value.none)] : List (Str × Value)).reverse) (Str.ofString "region") = some Value.none := lookup_self _ _ _
    refine ⟨hd'.typeIs, dct_noDict hd', wpAny_dict_get2 (knd := noneKind w) hsy ?_⟩
    refine wpAny_Name (wpAny_loadName_local rfl (by show putScope.names.lookup (Str.ofString "region") = some .local; decide +kernel) hns hreg ?_) (by decide +kernel)
    refine wpAny_Name (wpAny_loadName_local rfl (by show putScope.names.lookup (Str.ofString "region") = some .local; decide +kernel) hns hreg ?_) (by decide +kernel)
    exact ⟨(), _, rfl, (empty_any hd').mapOf, _, rfl, rfl⟩
  · obtain ⟨rfl, rfl⟩ := q
    exact AftC.same C hk .none

end

section
variable {w : World} {base : Heap} {mg mb : Str → Option Value} {env : Env} {X μ : List Addr} {vs vs' : Vars} {own own' : Own} {A : Around} {s : Shared} {n : Nat}

theorem Core.table {h h' : Heap} (C : Core w base X μ own h) (hk : ∀ b o, b ≠ 83 → h.get? b = some o → h'.get? b = some o) (tab : TabOk h' X) : Core w base X μ own h' ∧ ∀ W, 83 ∈ W → St W X μ h X μ h' :=
  have hk2 : ∀ b o, h.get? b = some o → b ∉ X → b ∉ X ∧ h'.get? b = some o := fun b o e hb => ⟨hb, hk b o (fun q => hb (q ▸ C.tabX)) e⟩
  have all : ∀ b, (∃ o, h.get? b = some o) → ∃ o, h'.get? b = some o := fun b q => (Decidable.em (b = 83)).elim (fun z => tab.elim fun _ r => z ▸ ⟨_, r.1⟩) fun z => q.imp fun o e => hk b o z e
  ⟨⟨fun b o e => hk b o (fun q => nn ((C.baseX 83 C.tabX).1.symm.trans (q ▸ e))) (C.stays b o e), fun b hb => ⟨(C.baseX b hb).1, (C.baseX b hb).2.1, all b (C.has hb)⟩, C.tabX, tab, C.own.mono hk2 ⟨[], (List.append_nil _).symm⟩ fun b hb o e => hk b o (fun q => (List.nodup_cons.mp C.apart).1 (q ▸ hb)) e, C.subμ, C.apart⟩,
    fun W hW => ⟨fun b o e hb => hk b o (fun q => hb (q ▸ hW)) e, fun b e => Option.eq_none_iff_forall_ne_some.mpr fun o z => (all b ⟨o, z⟩).elim fun _ y => nn (e.symm.trans y), fun b hb => .inl hb, [], (List.append_nil _).symm, fun _ hb => (List.not_mem_nil hb).elim⟩⟩
theorem St.rmv {W X' μ' : List Addr} {h h' : Heap} (T : St W X μ h X' μ' h') (I : Addr) : St W X μ h (rmv I X') μ' h' := ⟨T.keep, T.live, fun b hb => T.fresh b (of_rmv hb).1, T.pre⟩

theorem def_tail {hf : Heap} {tk : Tok} {f c cc : Addr} {o : Obj} {fd : FuncData} {d : AV} (ok : EnvOk env) (S : SRs w base env X μ vs own s.heap) (hb83 : base.get? 83 = none) (hn : noClo vs = true) (hp : env.kindOf (Str.ofString "put_in") = some .cell) (hrc : env.kindOf (Str.ofString "regions") = some .cell)
    (hd : vs.lookup (Str.ofString "regions") = some d) (ec : env.cells.lookup (Str.ofString "regions") = some c)
    (hk : ∀ b o, b ≠ 83 → s.heap.get? b = some o → hf.get? b = some o) (hf0 : s.heap.get? f = none) (hfo : hf.get? f = some o) (ho1 : o.cls = .type "function") (ho2 : o.data = .func fd) (hput : PutFn fd c) (hcc : fd.code = .ref cc) (hrec : hf.CodeRec (.ref cc) qPut) (hccX : cc ∉ X) (tab : TabOk hf X) :
    wpAny (model P0 w) A (storeName env (Str.ofString "put_in") (.ref f)) (fun _ s' => AftS w base env X μ s (setV (Str.ofString "put_in") (.clo d) vs) own .next .next s') noE { s with heap := hf, toks := tk } := by
  have hm : ∃ ν, μ = μ ++ ν := ⟨[], (List.append_nil _).symm⟩
  have hne : Str.ofString "put_in" ≠ Str.ofString "regions" := by decide +kernel
  generalize Str.ofString "regions" = rg at hrc hd ec hne
  generalize Str.ofString "put_in" = pn at hp hne ⊢
  obtain ⟨cp, ecp⟩ := ok.cells _ (.inl hp)
  obtain ⟨⟨v₀, hv₀⟩, c1, c2, c3⟩ := S.cat _ cp ecp
  have cpX := S.cin hn _ cp ecp
  have cX := S.cin hn _ c ec
  obtain ⟨c', v, e1, hcv, e3, e4, e5, rv⟩ := S.sr.cells _ d hd (by rw [hrc]; decide)
  have e1 : c = c' := Option.some.inj (ec.symm.trans e1)
  subst e1
  have hccp : c ≠ cp := fun q => hne (S.cinj _ _ c (q ▸ ecp) ec)
  refine wpAny_storeName_cell ok.kind hp ecp (IsCell.up hv₀ fun o => hk cp o c2) fun h₂ hcell₂ hs => ?_
  have hk₂ : ∀ b o, b ≠ cp → hf.get? b = some o → h₂.get? b = some o := fun b o q e => hs.extBut b o q e
  have hk3 : ∀ b o, b ≠ 83 → b ≠ cp → s.heap.get? b = some o → h₂.get? b = some o := fun b o q1 q2 e => hk₂ b o q2 (hk b o q1 e)
  obtain ⟨C₁, T₁⟩ := S.sr.core.table hk tab
  obtain ⟨C₂, T₂⟩ := C₁.touch hk₂ cpX c1 c2 (hcell₂.imp fun _ r => r.1)
  obtain ⟨C₃, up₃⟩ := C₂.drop (h' := h₂) (fun b o _ e => e) cX e3 e4
  have hkF : ∀ b o, s.heap.get? b = some o → b ∉ X → b ∉ rmv c X ∧ h₂.get? b = some o := fun b o e hb => up₃ b o (hk3 b o (fun q => hb (q ▸ S.sr.tabX)) (fun q => hb (q ▸ cpX)) e) hb
  have hfX : f ∉ X := S.sr.new hf0
  have rclo : VR w h₂ (rmv c X) μ (.clo d) (.ref f) := .clo (hk₂ f o (fun q => hfX (q ▸ cpX)) hfo) ho1 ho2 hput hcc (CodeRec.up hrec fun o => hk₂ cc o fun q => hccX (q ▸ cpX)) (IsCell.up hcv fun o => hk3 c o e4 hccp) (fun q => hfX (of_rmv q).1) (fun q => (of_rmv q).2 rfl) (fun q => hccX (of_rmv q).1) (rv.mono hkF hm)
  refine ⟨rmv c X, μ, h₂, tk, rfl, ((T₁ (WS env μ) List.mem_cons_self).trans (T₂ (WS env μ) (List.mem_cons_of_mem _ (List.mem_cons_of_mem _ (List.mem_append_left _ (cellOf_mem ecp))))) fun _ => .inl).rmv c, fun a ha hc => mem_rmv ha fun q => hc (q ▸ cellOf_mem ec),
    ⟨⟨C₃.stays, C₃.baseX, C₃.tabX, C₃.tab, C₃.own, C₃.subμ, S.sr.apart, mem_rmv S.sr.locX fun q => e5 q.symm, ?_, fun x e he hkx => ?_⟩, fun q => ?_, fun x c' e => ⟨(Decidable.em (c' = cp)).elim (fun q => q ▸ ⟨_, hcell₂⟩) fun q => (S.cat x c' e).1.imp fun u r => IsCell.up r fun o => hk3 c' o (S.cat x c' e).2.2.1 q, (S.cat x c' e).2⟩, S.cinj, S.cmem⟩, rfl⟩
  · refine S.sr.ns.imp fun m q => ⟨q.1.at fun o e => hk3 _ o (fun q => S.sr.a1 q.symm) (fun q => c3 q.symm) e, fun x e he hkx => ?_⟩
    rw [lookup_setV, if_neg fun q : x = pn => absurd (hkx.symm.trans (q ▸ hp)) (by decide)] at he
    exact (q.2 x e he hkx).imp fun u z => ⟨z.1, z.2.mono hkF hm⟩
  · rw [lookup_setV] at he
    exact ite_any he (fun q he => ⟨cp, .ref f, q ▸ ecp, hcell₂, c1, c2, c3, Option.some.inj he ▸ rclo⟩) fun q he => (S.sr.cells x e he hkx).imp fun c'' z => z.imp fun u z => ⟨z.1, IsCell.up z.2.1 fun o => hk3 c'' o z.2.2.2.1 fun y => q (S.cinj x _ c'' z.1 (y ▸ ecp)), z.2.2.1, z.2.2.2.1, z.2.2.2.2.1, z.2.2.2.2.2.mono hkF hm⟩
  · have z := noClo_all (x := pn) q
    rw [lookup_setV, if_pos rfl] at z
    exact Bool.noConfusion z

theorem putArgs_is {a : Arguments} (h : putArgs a = true) : ∃ q, a = ⟨[], [⟨Str.ofString "region", none, q⟩], none, [], [], none, []⟩ := by
  obtain ⟨h, h7⟩ := Bool.and_eq_true_iff.mp h
  obtain ⟨h, h6⟩ := Bool.and_eq_true_iff.mp h
  obtain ⟨h, h5⟩ := Bool.and_eq_true_iff.mp h
  obtain ⟨h, h4⟩ := Bool.and_eq_true_iff.mp h
  obtain ⟨h, h3⟩ := Bool.and_eq_true_iff.mp h
  obtain ⟨h1, h2⟩ := Bool.and_eq_true_iff.mp h
  obtain ⟨x, h8, h9⟩ := opt_any h7
  obtain ⟨h9, h10⟩ := Bool.and_eq_true_iff.mp h9
  obtain ⟨po, ar, va, ko, kd, kw, de⟩ := a
  obtain ⟨an, ax, ap⟩ := x
  refine ⟨ap, ?_⟩
  rw [show po = [] from List.isEmpty_iff.mp h1, show va = none from Option.isNone_iff_eq_none.mp h2, show ko = [] from List.isEmpty_iff.mp h3, show kd = [] from List.isEmpty_iff.mp h4, show kw = none from Option.isNone_iff_eq_none.mp h5, show de = [] from List.isEmpty_iff.mp h6,
    show ar = _ from one?_is h8, show ax = none from Option.isNone_iff_eq_none.mp h9, show an = _ from beq_iff_eq.mp h10]
theorem putName_is {n : Str} {e : Expr} (h : putName n e = true) : ∃ p, e = .Name n p := by
  obtain ⟨x, h1, h2⟩ := opt_any h
  exact ⟨x.2, by rw [nm?_is h1, beq_iff_eq.mp h2]⟩
theorem putRet_is {e : Expr} (h : putRet e = true) : ∃ q1 q2 q3 q4 q5, (q2.endLine == q5.line) = true ∧ e = .Call (.Attribute (.Name (Str.ofString "regions") q1) (Str.ofString "get") q2) [.Name (Str.ofString "region") q3, .Name (Str.ofString "region") q4] [] q5 := by
  obtain ⟨q, h1, h⟩ := opt_any h
  obtain ⟨h, h4⟩ := Bool.and_eq_true_iff.mp h
  obtain ⟨h2, h3⟩ := Bool.and_eq_true_iff.mp h
  obtain ⟨m, h5, h⟩ := opt_any h4
  obtain ⟨h6, h⟩ := Bool.and_eq_true_iff.mp h
  obtain ⟨h7, h8⟩ := Bool.and_eq_true_iff.mp h
  obtain ⟨ab, h9, h⟩ := opt_any h3
  obtain ⟨h10, h11⟩ := Bool.and_eq_true_iff.mp h
  obtain ⟨p1, e1⟩ := putName_is h6
  obtain ⟨p2, e2⟩ := putName_is h10
  obtain ⟨p3, e3⟩ := putName_is h11
  refine ⟨p1, m.2.2, p2, p3, q.2.2.2, h8, ?_⟩
  rw [cl?_is h1, at?_is h5, two?_is h9, e1, e2, e3, List.isEmpty_iff.mp h2, beq_iff_eq.mp h7]
theorem rt?_is {st : Stmt} {e : Expr} (h : rt? st = some e) : ∃ p, st = .Return (some e) p := by
  cases st with
  | Return v p => exact ⟨p, congrArg (Stmt.Return · p) h⟩
  | _ => exact nn h
theorem putBody_is {body : List Stmt} (h : putBody body = true) : ∃ q1 q2 q3 q4 q5 q6, (q2.endLine == q5.line) = true ∧ body = [.Return (some (.Call (.Attribute (.Name (Str.ofString "regions") q1) (Str.ofString "get") q2) [.Name (Str.ofString "region") q3, .Name (Str.ofString "region") q4] [] q5)) q6] := by
  obtain ⟨st, h1, h⟩ := opt_any h
  obtain ⟨e, h2, h⟩ := opt_any h
  obtain ⟨p, h4⟩ := rt?_is h2
  exact (putRet_is h).imp fun q1 z => z.imp fun q2 z => z.imp fun q3 z => z.imp fun q4 z => z.imp fun q5 z => ⟨p, z.1, by rw [one?_is h1, h4, z.2]⟩
theorem isPut_ok {nm b : Str} {args : Arguments} {body : List Stmt} {scope : Scope} {p : Pos} (h : isPut nm args body scope b p = true) :
    nm = Str.ofString "put_in" ∧ b = Str.ofString "put_in" ∧ (∃ q, args = ⟨[], [⟨Str.ofString "region", none, q⟩], none, [], [], none, []⟩) ∧ scope = putScope ∧ p = posPut ∧
      ∃ q1 q2 q3 q4 q5 q6, (q2.endLine == q5.line) = true ∧ body = [.Return (some (.Call (.Attribute (.Name (Str.ofString "regions") q1) (Str.ofString "get") q2) [.Name (Str.ofString "region") q3, .Name (Str.ofString "region") q4] [] q5)) q6] := by
  obtain ⟨h1, h⟩ := Bool.and_eq_true_iff.mp h
  obtain ⟨h2, h⟩ := Bool.and_eq_true_iff.mp h
  obtain ⟨h3, h⟩ := Bool.and_eq_true_iff.mp h
  obtain ⟨h4, h⟩ := Bool.and_eq_true_iff.mp h
  obtain ⟨h5, h6⟩ := Bool.and_eq_true_iff.mp h
  exact ⟨beq_iff_eq.mp h1, beq_iff_eq.mp h2, putArgs_is h3, beq_iff_eq.mp h5, beq_iff_eq.mp h6, putBody_is h4⟩

theorem put_closure {c : Addr} (ec : env.cells.lookup (Str.ofString "regions") = some c) : closureFor putScope env = pure [(Str.ofString "regions", c)] := by
  have hc : cellOf env (Str.ofString "regions") = pure c := by unfold cellOf; rw [ec]
  unfold closureFor
  show (forIn [(Str.ofString "region", NameKind.local), (Str.ofString "regions", NameKind.free)] ([] : List (Str × Addr)) (closStep env) >>= pure) = _
  have e1 : closStep env (Str.ofString "region", NameKind.local) [] = pure (ForInStep.yield []) := rfl
  have e2 : closStep env (Str.ofString "regions", NameKind.free) [] = pure (ForInStep.yield [(Str.ofString "regions", c)]) := by
    show (cellOf env (Str.ofString "regions") >>= fun c => pure (ForInStep.yield [(Str.ofString "regions", c)])) = _
    rw [hc, pure_bind]
  rw [List.forIn_cons, e1, pure_bind]
  show (forIn [(Str.ofString "regions", NameKind.free)] ([] : List (Str × Addr)) (closStep env) >>= pure) = _
  rw [List.forIn_cons, e2, pure_bind]
  exact pure_bind _ _

theorem st_def (G : Gd w base mg mb) {nm b : Str} {args : Arguments} {body : List Stmt} {scope : Scope} {p : Pos} {d : AV} (ok : EnvOk env) (h : isPut nm args body scope b p = true) (S : SRs w base env X μ vs own s.heap) (hn : noClo vs = true) (hp : env.kindOf (Str.ofString "put_in") = some .cell) (hrc : env.kindOf (Str.ofString "regions") = some .cell)
    (hd : vs.lookup (Str.ofString "regions") = some d) : wpAny (model P0 w) A (exec (.FunctionDef nm args body [] none [] scope none b p) env) (AftS w base env X μ s (setV (Str.ofString "put_in") (.clo d) vs) own .next) noE s := by
  obtain ⟨e1, e2, ⟨q, e3⟩, e4, e5, q1, q2, q3, q4, q5, q6, hline, e6⟩ := isPut_ok h
  rw [e1, e2, e3, e4, e5, e6]
  obtain ⟨c, ec⟩ := ok.cells _ (.inl hrc)
  have hcl := put_closure ec
  obtain ⟨hcode, hqual⟩ := ok.put hp
  have hq : qualnameIn env (Str.ofString "put_in") (Str.ofString "put_in") = qPut := by
    unfold qualnameIn
    rw [hp, if_neg (by decide)]
    exact hqual
  obtain ⟨ps, hP, ht, htab⟩ := S.sr.tab
  have hg := G.g.keeps S.sr.stays
  have C : CodeHd s.heap 85 83 := G.hd.keeps S.sr.stays
  have hb : s.heap.BuiltinsAt mg 83 := G.bat.imp fun bm z => z.imp fun ob z => ⟨z.1, z.2.1, z.2.2.1, z.2.2.2.1, S.sr.stays _ _ z.2.2.2.2.1, z.2.2.2.2.2⟩
  refine nestDef_K rfl rfl rfl ?_
  rw [hq]
  cases hf : codeAmong posPut ps.toList with
  | none =>
    refine makeFunction_K (mg := mg) hcl ok.globals hg hcode C hP ht hf (by decide) hb fun c' ctv doc h' tk hx hge hlt hrec htb => ?_
    have hccX : c' ∉ X := S.sr.new (none_above hge)
    have hrec' : ∀ fo : Obj, (h'.push fo).CodeRec (.ref c') qPut := fun fo => CodeRec.up hrec fun o e => Heap.get?_push_of_some _ e
    refine def_tail ok S G.no hn hp hrc hd ec (fun b o hb e => Heap.get?_push_of_some _ (hx b o hb e)) (none_above (Nat.le_trans hge (Nat.le_of_lt hlt))) (Heap.get?_push_size _ rfl) rfl rfl ⟨⟨_, rfl⟩, ⟨_, _, _, _, _, _, hline, rfl⟩, rfl, rfl, rfl, rfl, rfl, rfl, rfl⟩ rfl (hrec' _) hccX ⟨_, Heap.get?_push_of_some _ htb, ?_, fun cv hcv => ?_⟩
    · rw [Array.toList_append]; exact TriplesOk_snoc _ _ _ _ ht
    · rw [Array.toList_append] at hcv
      exact so ((codeAmong_snoc (pos := posPut) (c := .ref c') ps.toList ht hf).symm.trans hcv) ⟨c', rfl, hccX, hrec' _⟩
  | some cv =>
    obtain ⟨cc, ecc, hccX, hrec⟩ := htab cv hf
    rw [ecc] at hf
    refine makeFunction_hit (mg := mg) hcl ok.globals hg hcode C hP ht hf hb fun ctv doc h' tk hk hsz => ?_
    exact def_tail ok S G.no hn hp hrc hd ec (fun b o _ e => Heap.get?_push_of_some _ (hk b o e)) (none_above hsz) (Heap.get?_push_size _ rfl) rfl rfl ⟨⟨_, rfl⟩, ⟨_, _, _, _, _, _, hline, rfl⟩, rfl, rfl, rfl, rfl, rfl, rfl, rfl⟩ rfl (CodeRec.up hrec fun o e => Heap.get?_push_of_some _ (hk _ _ e)) hccX (TabOk.mono (fun b o e hb => ⟨hb, Heap.get?_push_of_some _ (hk _ _ e)⟩) (fun o e => Heap.get?_push_of_some _ (hk _ _ e)) S.sr.tab)
end
end Mine
set_option linter.unusedSimpArgs false
set_option linter.unusedVariables false
namespace Mine

section
variable {w : World} {base : Heap} {mg mb : Str → Option Value} {env : Env} {X μ : List Addr} {vs vs' : Vars} {own own' : Own} {A : Around} {s : Shared} {n : Nat}

inductive Shape (t : Expr) : Prop
  | name (x : Str) (p : Pos) (e : t = .Name x p)
  | sub (o i : Expr) (p : Pos) (e : t = .Subscript o i p)
theorem put_shape {R : Rec} {sc : Scope} {t : Expr} {d : AV} {r : Vars × Own} (h : R.put sc vs own t d = some r) : Shape t := by
  unfold Rec.put at h
  cases q : nm? t with
  | some x => exact .name x.1 x.2 (nm?_is q)
  | none =>
    rw [q] at h
    exact bind_any h fun a h1 _ => (su?_is h1).elim fun p e => .sub a.1 a.2 p e

theorem each_two {t1 t2 : Expr} (h1 : Shape t1) (h2 : Shape t2) (env : Env) : assignEach [t1, t2] env = [(false, assign t1 env), (false, assign t2 env)] := by
  cases h1 with
  | name x p a => cases h2 with
    | name y q b => rw [a, b]; rfl
    | sub o i q b => rw [a, b]; rfl
  | sub o i p a => cases h2 with
    | name y q b => rw [a, b]; rfl
    | sub o' i' q b => rw [a, b]; rfl

theorem block_fn (ok : EnvOk env) : env.blockKind = .function := by unfold Env.blockKind; rw [ok.kind]; rfl

noncomputable def swR (N : List Str) (vs : List Expr) : Sem (Option (List Str)) := do
  if N.length != 2 || N.eraseDups.length != N.length then return none
  if vs.all (foldedForSure 8) then return none
  if vs.all (constantsAlone 8) then unsupported "assign.tuple-of-constant-expressions:order-of-the-stores"
  return some N
noncomputable def swN (c1 c2 : Bool) (x y : Str) : List Str := [(c1, x), (c2, y)].filterMap fun z => if z.1 then some z.2 else none
noncomputable abbrev swT (env : Env) (N : List Str) (e1 e2 : Expr) : Sem (Option (List Str)) := if (!(2 == 2 || 2 == 3) || 2 != 2 || env.blockKind != .function) = true then pure none else if (isStar e1 || (isStar e2 || false)) = true then pure none else swR N [e1, e2]
theorem swT_is {N : List Str} {e1 e2 : Expr} (ok : EnvOk env) (h1 : isStar e1 = false) (h2 : isStar e2 = false) : swT env N e1 e2 = swR N [e1, e2] := by
  unfold swT
  rw [block_fn ok, h1, h2]
  rfl
theorem swR_short {c1 c2 : Bool} {x y : Str} {es : List Expr} (h : (c1 && c2) = false) : swR (swN c1 c2 x y) es = pure none := by
  cases c1 <;> cases c2 <;> first | rfl | exact Bool.noConfusion h
theorem swR_fold {N : List Str} {es : List Expr} (h : es.all (foldedForSure 8) = true) : swR N es = pure none := by
  unfold swR
  rw [h]
  by_cases q : (N.length != 2 || N.eraseDups.length != N.length) = true
  · rw [if_pos q]
  · rw [if_neg q]; rfl
theorem swR_two {x y : Str} {es : List Expr} (hne : x ≠ y) (h1 : es.all (foldedForSure 8) = false) (h2 : es.all (constantsAlone 8) = false) : swR [x, y] es = pure (some [x, y]) := by
  unfold swR
  rw [h1, h2, if_neg, if_neg Bool.false_ne_true, if_neg Bool.false_ne_true]
  rw [show ([x, y] : List Str).eraseDups.length = 2 by simp [List.eraseDups_cons, hne.symm]]
  exact Bool.false_ne_true

theorem no_swap2 {t1 t2 e1 e2 : Expr} {k k2 : Nat} {tp p2 : Pos} (ok : EnvOk env) (h1 : Shape t1) (h2 : Shape t2) (h : swp env.scope t1 t2 e1 e2 = some false)
    (s1 : isStar e1 = false) (s2 : isStar e2 = false) : swappedStores [.Tuple [t1, t2] k tp] (.Tuple [e1, e2] k2 p2) env = pure none := by
  cases h1 with
  | name x p a =>
    cases h2 with
    | name y q b =>
      rw [a, b] at h ⊢
      have e : swappedStores [.Tuple [.Name x p, .Name y q] k tp] (.Tuple [e1, e2] k2 p2) env = swT env (swN (env.kindOf x == some .local && p.line == p.line) (env.kindOf y == some .local && q.line == p.line) x y) e1 e2 := by kernel_rfl
      rw [e, swT_is ok s1 s2]
      refine ite_any (show (if env.kindOf x == some .local && (env.kindOf y == some .local && p.line == q.line) then _ else some false) = some false from h) (fun _ h => ite_else h fun _ h => ite_any h (fun hf _ => ?_) fun _ h => ite_else h fun _ h => Bool.noConfusion (Option.some.inj h)) fun hc _ => ?_
      · exact swR_fold (by rw [List.all_cons, List.all_cons, List.all_nil, Bool.and_true]; exact hf)
      · refine swR_short (Bool.eq_false_iff.mpr fun z => hc ?_)
        exact and_is z fun z1 z2 => and_is z1 fun z1 _ => and_is z2 fun z2 z3 => by rw [z1, z2, eq_of_beq z3, beq_self_eq_true]; rfl
    | sub o i q b =>
      rw [a, b]
      have e : swappedStores [.Tuple [.Name x p, .Subscript o i q] k tp] (.Tuple [e1, e2] k2 p2) env = swT env (swN (env.kindOf x == some .local && p.line == p.line) false x x) e1 e2 := by kernel_rfl
      rw [e, swT_is ok s1 s2]
      exact swR_short (Bool.and_false _)
  | sub o i p a =>
    cases h2 with
    | name y q b =>
      rw [a, b]
      have e : swappedStores [.Tuple [.Subscript o i p, .Name y q] k tp] (.Tuple [e1, e2] k2 p2) env = swT env (swN false (env.kindOf y == some .local && q.line == p.line) y y) e1 e2 := by kernel_rfl
      rw [e, swT_is ok s1 s2]
      exact swR_short rfl
    | sub o' i' q b =>
      rw [a, b]
      have e : swappedStores [.Tuple [.Subscript o i p, .Subscript o' i' q] k tp] (.Tuple [e1, e2] k2 p2) env = swT env [] e1 e2 := by kernel_rfl
      rw [e, swT_is ok s1 s2]
      rfl

theorem swap2 {x y : Str} {p q : Pos} {e1 e2 : Expr} {k k2 : Nat} {tp p2 : Pos} (ok : EnvOk env) (h : swp env.scope (.Name x p) (.Name y q) e1 e2 = some true) (s1 : isStar e1 = false) (s2 : isStar e2 = false) :
    swappedStores [.Tuple [.Name x p, .Name y q] k tp] (.Tuple [e1, e2] k2 p2) env = pure (some [x, y]) := by
  have e : swappedStores [.Tuple [.Name x p, .Name y q] k tp] (.Tuple [e1, e2] k2 p2) env = swT env (swN (env.kindOf x == some .local && p.line == p.line) (env.kindOf y == some .local && q.line == p.line) x y) e1 e2 := by kernel_rfl
  rw [e, swT_is ok s1 s2]
  refine ite_any (show (if env.kindOf x == some .local && (env.kindOf y == some .local && p.line == q.line) then _ else some false) = some true from h) (fun hc h => ite_else h fun hne h => ite_any h (fun _ h => Bool.noConfusion (Option.some.inj h)) fun hf h => ite_else h fun hcn _ => ?_) fun _ h => Bool.noConfusion (Option.some.inj h)
  refine and3 hc fun c1 c2 c3 => ?_
  rw [c1, c2, eq_of_beq c3, beq_self_eq_true]
  exact swR_two (fun q => hne (beq_iff_eq.mpr q)) (by rw [List.all_cons, List.all_cons, List.all_nil, Bool.and_true]; exact Bool.eq_false_iff.mpr hf) (by rw [List.all_cons, List.all_cons, List.all_nil, Bool.and_true]; exact Bool.eq_false_iff.mpr hcn)

theorem swap_names {t1 t2 e1 e2 : Expr} (h : swp env.scope t1 t2 e1 e2 = some true) : ∃ x p y q, t1 = .Name x p ∧ t2 = .Name y q := by
  unfold swp at h
  cases q : (nm? t1).bind fun x => (nm? t2).map fun y => (x, y) with
  | none => rw [q] at h; exact Bool.noConfusion (Option.some.inj h)
  | some z => exact bind_any q fun x h1 h => map_any h fun y h2 _ => ⟨x.1, x.2, y.1, y.2, nm?_is h1, nm?_is h2⟩

theorem rhss_plain {R : Rec} {sc : Scope} {e1 e2 : Expr} {r : List AV × Own} (h : R.rhss sc vs own [e1, e2] = some r) : isStar e1 = false ∧ isStar e2 = false :=
  ite_else h fun h1 h => bind_any h fun p _ h => map_any h fun q h _ => ite_else h fun h2 _ => ⟨Bool.not_eq_true _ ▸ h1, Bool.not_eq_true _ ▸ h2⟩

theorem st_pair {R : Rec} (G : Gd w base mg mb) (hF : SF w base n R.fresh) (hKF : CalS w R.fresh) (hE : SE w base n R.e) (ok : EnvOk env) (hA : Room A n) {t1 t2 e1 e2 : Expr} {k k2 : Nat} {tp p2 pos : Pos} (h : stepPair R env.scope vs own t1 t2 e1 e2 = some (vs', own')) (S : SRs w base env X μ vs own s.heap) :
    wpAny (model P0 w) A (exec (.Assign [.Tuple [t1, t2] k tp] (.Tuple [e1, e2] k2 p2) pos) env) (AftS w base env X μ s vs' own' .next) noE s := by
  refine ite_else h fun hno h => bind_any h fun sw hsw h => bind_two h fun ab own₁ hr h => bind_any h fun ab hab h => ?_
  have hno : noClo vs = true := List.all_eq_true.mpr fun v hv => (Bool.not_eq_true' _).mpr (Bool.eq_false_iff.mpr fun q => hno (List.any_eq_true.mpr ⟨v, hv, q⟩))
  have hr := (show R.rhss env.scope vs own [e1, e2] = some ([ab.1, ab.2], own₁) from two?_is hab ▸ hr)
  obtain ⟨a, b⟩ := ab
  obtain ⟨st1, st2⟩ := rhss_plain hr
  have hev : ∀ {Q : Value → Shared → Prop}, (∀ X₁ μ₁ h₁ tk₁ l u v, St (83 :: μ) X μ s.heap X₁ μ₁ h₁ → (∀ a ∈ X, a ∈ X₁) → SR w base env X₁ μ₁ vs own₁ h₁ → h₁.IsTuple l #[u, v] → VR w h₁ X₁ μ₁ a u → VR w h₁ X₁ μ₁ b v → Q (.ref l) { s with heap := h₁, toks := tk₁ }) →
      wpAny (model P0 w) A (eval (.Tuple [e1, e2] k2 p2) env) Q noE s := fun hQ =>
    wpAny_Tuple (wm (ev_rhss G hF hKF hE ok hA p2 hr S.sr) fun us s₂ q => q.casesOn fun X₁ μ₁ h₁ tk₁ e T₁ g₁ S₁ r₁ => e ▸ r₁.twoI fun u v ru rv => ⟨by rw [sizeLine_is]; show 2 ≤ 16777216; omega,
      have T₂ : St (83 :: μ₁) X₁ μ₁ h₁ X₁ μ₁ (h₁.push { cls := .type "tuple", data := .seq [u, v].toArray }) := .grown fun b o e => Heap.get?_push_of_some _ e
      hQ X₁ μ₁ _ tk₁ _ u v (T₁.trans83 T₂) g₁ (S₁.push _) ⟨_, Heap.get?_push_size _ rfl, rfl, _, rfl⟩ (T₂.vr S₁.sub83 ru) (T₂.vr S₁.sub83 rv)⟩)
  cases sw with
  | false =>
    rw [if_neg Bool.false_ne_true] at h
    refine bind_any h fun p hp1 hp2 => ?_
    obtain ⟨vs₂, own₂⟩ := p
    have s1 := put_shape hp1
    have s2 := put_shape hp2
    refine Assign_Tuple (hev fun X₁ μ₁ h₁ tk₁ l u v T₁ g₁ S₁ ht ru rv => ?_) rfl (no_swap2 ok s1 s2 hsw st1 st2)
    have he := each_two s1 s2 env
    refine wpAny_assign_Tuple hA.handled ht (by rw [he]; rfl) (by rw [he]; rfl) fun h₂ hx₂ => ?_
    rw [he]
    have hk₂ : ∀ b o, h₁.get? b = some o → h₂.get? b = some o := fun b o e => hx₂ b o (Nat.ne_of_lt (Heap.lt_size e)) e
    have T₂ : St (83 :: μ₁) X₁ μ₁ h₁ X₁ μ₁ h₂ := .grown hk₂
    have Ss := S.ofE (T₁.trans83 T₂) g₁ (S₁.grown hk₂)
    show wpAny _ A (do holding [v] (assign t1 env u); assignInOrder [assign t2 env] [v]) _ _ _
    refine wpAny_bind (wpAny_holding (wm (ev_put (s := { s with heap := h₂, toks := tk₁ }) hE ok hA hp1 Ss (T₂.vr S₁.sub83 ru)) fun _ s₃ z => z.casesOn fun X₃ μ₃ h₃ tk₃ e T₃ g₃ S₃ => ?_))
    subst e
    show wpAny _ A (do holding [] (assign t2 env v); assignInOrder [] []) _ _ _
    refine wpAny_bind (wpAny_holding (wm (ev_put (s := { s with heap := h₃, toks := tk₃ }) hE ok hA hp2 S₃ (T₃.vr (Ss.subWS hno) (T₂.vr S₁.sub83 rv))) fun _ s₄ z => wpAny_pure (AftS.ofV ?_)))
    exact AftV.from (tk₁ := tk₃) (((T₁.trans83 T₂).wider sub_WS).transW T₃) (fun a ha => g₃ a (g₁ a ha)) z
  | true =>
    rw [if_pos rfl] at h
    refine bind_any h fun p hp1 hp2 => ?_
    obtain ⟨vs₂, own₂⟩ := p
    obtain ⟨x, p, y, q, n1, n2⟩ := swap_names hsw
    rw [n1, n2] at hsw ⊢
    rw [n2] at hp1
    rw [n1] at hp2
    refine Assign_Tuple_swapped (hev fun X₁ μ₁ h₁ tk₁ l u v T₁ g₁ S₁ ht ru rv => ?_) rfl (swap2 ok hsw st1 st2)
    show wpAny _ A (unpackItems (.ref l) (#[u, v] : Array Value).size none) _ _ _
    refine wpAny_unpackItems_tuple hA.handled ht fun h₂ hx₂ => ?_
    have hk₂ : ∀ b o, h₁.get? b = some o → h₂.get? b = some o := fun b o e => hx₂ b o (Nat.ne_of_lt (Heap.lt_size e)) e
    have T₂ : St (83 :: μ₁) X₁ μ₁ h₁ X₁ μ₁ h₂ := .grown hk₂
    have Ss := S.ofE (T₁.trans83 T₂) g₁ (S₁.grown hk₂)
    show wpAny _ A (do holding [u] (bindName env y v); assignInOrder [bindName env x] [u]) _ _ _
    refine ite_then hp1 fun hk1 hp1 => and_is hk1 fun k1 k2 => some_pair hp1 fun e1 e2 => ?_
    subst e1 e2
    refine wpAny_bind (wpAny_holding (wpAny_bindName (wm (Ss.store (s := { s with heap := h₂, toks := tk₁ }) ok k1 k2 (T₂.vr S₁.sub83 rv)) fun _ s₃ z => z.casesOn fun h₃ tk₃ e T₃ S₃ => ?_)))
    subst e
    show wpAny _ A (do holding [] (bindName env x u); assignInOrder [] []) _ _ _
    refine ite_then hp2 fun hk2 hp2 => and_is hk2 fun k1 k2 => sp hp2 (wpAny_bind (wpAny_holding (wpAny_bindName (wm (S₃.store (s := { s with heap := h₃, toks := tk₃ }) ok k1 k2 (T₃.vr (Ss.subWS hno) (T₂.vr S₁.sub83 ru))) fun _ s₄ z => wpAny_pure (z.casesOn fun h₄ tk₄ e T₄ S₄ => ?_)))))
    exact AftS.ofV ⟨X₁, μ₁, h₄, tk₄, e, (((T₁.trans83 T₂).wider sub_WS).transW T₃).transW T₄, g₁, S₄⟩
end

section
variable {w : World} {base : Heap} {mg mb : Str → Option Value} {env : Env} {X μ : List Addr} {vs vs' : Vars} {own own' : Own} {A : Around} {s : Shared} {n : Nat}

theorem s_assign {R : Rec} (G : Gd w base mg mb) (hF : SF w base n R.fresh) (hKF : CalS w R.fresh) (hE : SE w base n R.e) (hT : ST w base n R.t) (ok : EnvOk env) (hA : Room A n) {t value : Expr} {pos : Pos} (h : sAssign R env.scope vs own value t = some (vs', own')) (S : SRs w base env X μ vs own s.heap) :
    wpAny (model P0 w) A (exec (.Assign [t] value pos) env) (AftS w base env X μ s vs' own' .next) noE s := by
  cases t with
  | Name x p =>
    refine ite_then h fun hk h => and_is hk fun hk1 hk2 => ite_any h (fun _ h => ?a) fun hc h => ?b
    case a =>
      refine bind_any h fun c h1 h => bind_any h fun g h2 h => ite_then h fun hsw h => mp h fun d h3 => ?_
      rw [lc?_is h1, one?_is h2]
      exact st_comp G hE hT ok hA hk1 hk2 hsw h3 S
    case b =>
      exact mp h fun d h1 => wpAny_Assign_Name (then_E (ev_rhs G hF hKF hE ok hA h1 S.sr) fun v X₁ μ₁ k₁ tk₁ T₁ g₁ S₁ r₁ => wm (AftV.store ok S hk1 hk2 T₁ g₁ S₁ r₁) fun _ s' q => AftS.ofV q) (no_swap (Bool.eq_false_iff.mpr hc) _ _ _)
  | Subscript o i p =>
    refine ite_else h fun hc h => bind_any h fun d h1 h3 => ?_
    rw [exec_Assign_Subscript o i p value pos (no_swap (Bool.eq_false_iff.mpr hc) _ _ _)]
    refine wpAny_bind (wpAny_standAt (wpAny_bind (then_E (hE.ok h1 ok hA S.sr) fun v X₁ μ₁ k₁ tk₁ T₁ g₁ S₁ r₁ => ?_)))
    exact wpAny_bind (wm (ev_put (s := { s with heap := k₁, toks := tk₁ }) hE ok hA h3 (S.ofE T₁ g₁ S₁) r₁) fun _ s' q => wpAny_pure (AftS.ofV (AftV.from (T₁.wider sub_WS) g₁ q)))
  | Tuple ts k p =>
    refine bind_any h fun t h1 h => bind_any h fun es h2 h => bind_any h fun e h3 hz => ?_
    obtain ⟨k', p', e⟩ := tp?_is h2
    rw [e, two?_is h1, two?_is h3]
    exact st_pair G hF hKF hE ok hA hz S
  | _ => exact nn h

theorem s_if {R : Rec} (hT : ST w base n R.t) (hS : SSs w base n R.ss) (ok : EnvOk env) (hA : Room A n) {t : Expr} {b o : List Stmt} {p : Pos} {fl : Fl} {c : Bool} {own₁ : Own} (h1 : R.t env.scope vs own t = some (c, own₁)) (h2 : (if c then R.ss env.scope vs own₁ b else R.ss env.scope vs own₁ o) = some (fl, vs', own')) (S : SRs w base env X μ vs own s.heap) :
    wpAny (model P0 w) A (exec (.If t b o p) env) (AftS w base env X μ s vs' own' fl) noE s := by
  refine wpAny_If (then_B (hT.ok h1 ok hA S.sr) fun X₁ μ₁ k₁ tk₁ T₁ g₁ S₁ => ?_)
  have go : ∀ {bs : List Stmt}, R.ss env.scope vs own₁ bs = some (fl, vs', own') → wpAny (model P0 w) A (execs bs env) (AftS w base env X μ s vs' own' fl) noE { s with heap := k₁, toks := tk₁ } := fun h2 =>
    wm (hS.ok (s := { s with heap := k₁, toks := tk₁ }) h2 ok hA (S.ofE T₁ g₁ S₁)) fun f s' q => AftS.from (T₁.wider sub_WS) (fun a ha _ => g₁ a ha) q
  cases c with
  | true => exact go h2
  | false => exact go h2

theorem st_s {R : Rec} (G : Gd w base mg mb) (hF : SF w base n R.fresh) (hKF : CalS w R.fresh) (hE : SE w base n R.e) (hT : ST w base n R.t) (hS : SSs w base n R.ss) : S1 w base n (stepS R) := ⟨by
  intro env X μ vs vs' own st fl own' A s h ok hA S
  cases st with
  | Return v p =>
    refine bind_any h fun e h0 h => m3 h fun d h1 => ?_
    have fin : ∀ {own₁ d}, wpAny (model P0 w) A (eval e env) (AftE w base env X μ vs s own₁ d) noE s → wpAny (model P0 w) A (exec (.Return (some e) p) env) (AftS w base env X μ s vs own₁ (.ret d)) noE s := fun q => wpAny_Return_some (wm q fun v s₁ q => AftS.ofE S q fun h' X' μ' r => ⟨v, rfl, r⟩)
    exact h0 ▸ ite_any h1 (fun _ h1 => fin (ev_rhs G hF hKF hE ok hA h1 S.sr)) fun _ h1 => fin (hE.ok h1 ok hA S.sr)
  | Assign ts value p =>
    refine bind_any h fun t h1 h => m3 h fun r h2 => ?_
    rw [one?_is h1]
    exact s_assign G hF hKF hE hT ok hA h2 S
  | If t b o p => exact bind_any h fun c h1 h2 => s_if hT hS ok hA h1 h2 S
  | While t b o p =>
    refine ite_then h fun hc h => ?_
    rw [show o = [] from List.isEmpty_iff.mp (Bool.and_eq_true_iff.mp hc).1]
    exact st_while hT hS ok hA h S
  | For t it b o p =>
    refine bind_any h fun x h0 h => ite_then h fun hc h => bind_any h fun d h1 h2 => and_is hc fun h3 hc => and_is hc fun hc hset => and_is hc fun hk hn => ?_
    rw [nm?_is h0, List.isEmpty_iff.mp h3]
    exact st_for G hE hS ok hA hk hn (Bool.not_inj (hset.trans rfl)) h1 h2 S
  | FunctionDef nm args body decos rt tps sc tsc b p =>
    refine ite_then h fun hc h => m3 h fun d h5 => and_is hc fun hc h0 => and_is hc fun hc q4 => and_is hc fun hc q3 => and_is hc fun q1 q2 => and_is h0 fun h0 h4 => and_is h0 fun h0 h3 => and_is h0 fun h1 h2 => ?_
    rw [List.isEmpty_iff.mp q1, Option.isNone_iff_eq_none.mp q2, List.isEmpty_iff.mp q3, Option.isNone_iff_eq_none.mp q4]
    exact st_def G ok h1 S h4 (beq_iff_eq.mp h2) (beq_iff_eq.mp h3) h5
  | Expr e p =>
    refine ite_then h fun hc h => m3 h fun r h1 => wpAny_Expr_any (wm (hE.ok h1 ok hA S.sr) fun v s₁ q => AftS.ofE S q fun h' X' μ' r => rfl) ?_ ?_
    · unfold interactive
      rw [ok.kind]
      rfl
    · cases e <;> first | rfl | exact Bool.noConfusion hc
  | _ => exact nn h⟩

theorem e_call {R : Rec} (G : Gd w base mg mb) (hE : SE w base n R.e) (hC : SC w base n R.call) (hK : CalS w R.call) (ok : EnvOk env) (hA : Room A n) {f : Expr} {args : List Expr} {p : Pos} {d : AV} (h : eCall R env.scope vs own f args p = some (d, own')) (S : SR w base env X μ vs own s.heap) :
    wpAny (model P0 w) A (eval (.Call f args [] p) env) (AftE w base env X μ vs s own' d) noE s := by
  unfold eCall at h
  cases q : zip? f args with
  | some r =>
    rw [q] at h
    obtain ⟨h1, h2, p, p', p'', e1, e2⟩ := zip?_is q
    refine ite_then h fun hc h => and_is hc fun n1 n2 => bind_any h fun rs h3 h => bind_any h fun ab h4 h => bind_any h fun xs h5 h => bind_any h fun ys h6 h => mp h fun ks h7 => ?_
    rw [e1, e2]
    exact ev_dictzip G hE ok hA (isTy_is n1) (isTy_is n2) (by rw [h3, ← tu?_is h5, ← tu?_is h6, ← two?_is h4]) h7 S
  | none =>
    rw [q] at h
    cases q : at? f with
    | some r =>
      rw [q] at h
      refine ite_then h fun hc h => and_is hc fun h1 hc => and_is hc fun h2 h3 => bind_two h fun d' own₁ h4 h => ite_then h fun hr h => bind_two h fun ds own₂ h5 h => (Option.isSome_iff_exists.mp h1).elim fun x h6 => ?_
      rw [nm?_is h6] at h4
      rw [at?_is q, nm?_is h6]
      exact ev_method hE ok hA h2 (of_decide_eq_true h3) h4 hr h5 h S
    | none =>
      rw [q] at h
      refine ite_then h fun h1 h => bind_two h fun g own₁ h2 h => bind_two h fun ds own₂ h3 h => (Option.isSome_iff_exists.mp h1).elim fun x h6 => ?_
      rw [nm?_is h6] at h2 ⊢
      exact ev_call G hE hC hK ok hA h2 h3 h S

theorem st_e {R : Rec} (G : Gd w base mg mb) (hE : SE w base n R.e) (hT : ST w base n R.t) (hC : SC w base n R.call) (hK : CalS w R.call) : SE w base n (stepE R) := ⟨by
  intro env X μ vs own e d own' A s h ok hA S
  cases e with
  | Constant c k p => exact ev_const h S
  | Name x p => exact map_own h fun h1 e => e ▸ ev_name G h1 ok S
  | Tuple es k p => exact ite_then h fun hl h => mp h fun r h1 => ev_tuple hE ok hA hl h1 S
  | List es p => exact ite_then h fun hl h => mp h fun r h1 => ev_list hE ok hA hl h1 S
  | IfExp t b o p => exact bind_two h fun c own₁ h1 h2 => ev_ifexp hE hT ok hA h1 h2 S
  | UnaryOp op x p =>
    refine mp h fun i h1 => ?_
    obtain ⟨h2, k, q, h3⟩ := neg?_is h1
    rw [h2, h3]
    exact wpAny_UnaryOp (wpAny_Constant_int (neg_int (AftE.tok _ S (.int _ _))))
  | BinOp l op r p => exact bind_two h fun a o1 h1 h => bind_two h fun b o2 h3 h => mp h fun c h5 => ev_binop hE ok hA h1 h3 h5 S
  | Compare l ops rs p =>
    refine bind_any h fun op q1 h => bind_any h fun r q2 h => ite_else h fun hm h => bind_two h fun a o1 h1 h => bind_two h fun b o2 h3 h => mp h fun c h5 => ?_
    rw [one?_is q1, one?_is q2]
    exact (ev_compare hE ok hA (Bool.eq_false_iff.mpr hm) h1 h3 h5 S).1
  | Subscript v sl p =>
    refine ite_any h (fun hs h => ?a) fun _ h => ?b
    case a => exact bind_two h fun a o1 h1 h => bind_two h fun b o2 h3 h => mp h fun c h5 => ev_subscript G hE ok hA hs h1 h3 h5 S
    case b =>
      refine ite_then h fun hs h => bind_two h fun a own₁ h1 h => bind_any h fun xs h2 h => ite_then h fun hsz h => sp h ?_
      obtain ⟨k, p1, p2, p3, e⟩ := rev?_is hs
      rw [e]
      exact ev_rev hE ok hA (li?_is h2 ▸ h1) hsz S
  | Attribute v nm p => exact ite_then h fun hv h => bind_two h fun a o1 h1 h => mp h fun c h5 => ev_attribute G hE ok hA (okBase_is hv nm env) h1 h5 S
  | ListComp el gs sc p =>
    refine bind_any h fun g h1 h => ?_
    rw [one?_is h1]
    exact ev_listcomp G hE hT ok hA h S
  | Call f args kws p =>
    refine ite_then h fun hk h => ?_
    rw [show kws = [] from List.isEmpty_iff.mp hk]
    exact e_call G hE hC hK ok hA h S
  | _ => exact nn h⟩
end

section
variable {w : World} {base : Heap} {mg mb : Str → Option Value} {X μ : List Addr} {own own' : Own} {A : Around} {s : Shared} {n m : Nat}

structure Sound (w : World) (base : Heap) (n : Nat) (R : Rec) : Prop where
  e : SE w base n R.e
  t : ST w base n R.t
  ss : SSs w base n R.ss
  call : SC w base n R.call
  cal : CalS w R.call
  fresh : SF w base n R.fresh
  calF : CalS w R.fresh

theorem SE.up {f} (h : SE w base n f) (hm : n ≤ m) : SE w base m f := ⟨fun h1 ok hA S => h.ok h1 ok (hA.mono hm) S⟩
theorem ST.up {f} (h : ST w base n f) (hm : n ≤ m) : ST w base m f := ⟨fun h1 ok hA S => h.ok h1 ok (hA.mono hm) S⟩
theorem SSs.up {f} (h : SSs w base n f) (hm : n ≤ m) : SSs w base m f := ⟨fun h1 ok hA S => h.ok h1 ok (hA.mono hm) S⟩
theorem SF.up {f} (h : SF w base n f) (hm : n ≤ m) : SF w base m f := ⟨fun h1 hA C r rs => h.ok h1 (hA.mono hm) C r rs⟩
theorem SC.up {f} (h : SC w base n f) (hm : n ≤ m) : SC w base m f := ⟨fun h1 hA C r rs => h.ok h1 (hA.mono hm) C r rs⟩

theorem fl?_is {f : Fl} {d : AV} (h : fl? f = some d) : f = .ret d := by
  cases f with
  | next => exact nn h
  | ret e => exact so h rfl
theorem fn_call {R : Rec} (G : Gd w base mg mb) (hS : SSs w base n R.ss) {a : Addr} {ds : List AV} {d : AV} {us : List Value} (h : runFn R a ds own = some (d, own')) (hA : Room A (n + 1)) (C : Core w base X μ own s.heap) (rs : VRs w s.heap X μ ds us) : wpAny (model P0 w) A (call (.ref a) us []) (AftC w base X μ s own' d) noE s := by
  refine bind_any h fun fn hf h => ite_then h fun hl h => bind_any h fun r h1 h => bind_any h fun dd h2 h => bind_any h fun d' h3 h => ite_then h fun hc h => sp h ?_
  obtain ⟨fl, vs', own₁⟩ := r
  rw [show fl = .ret dd from fl?_is h2] at h1
  exact call_fn G hS hf (eq_of_beq hl) h1 h3 hc hA C rs
theorem sound_call {P : Prims} {R : Rec} (G : Gd w base mg mb) (hP : SC w base m P.call) (hm : m ≤ n + 1) (hS : SSs w base n R.ss) : SC w base (n + 1) (stepCall P R) := ⟨by
  intro X μ g ds own d own' v us A s h hA C r rs
  unfold stepCall at h
  cases q : P.call g ds own with
  | some r' => rw [q] at h; exact hP.ok (q.trans h) (hA.mono hm) C r rs
  | none =>
    rw [q] at h
    cases g with
    | val u =>
      refine r.valI ?_
      have h : (match rf? (.val u) with | some a => runFn R a ds own | none => evBuiltin own u ds) = some (d, own') := h
      cases q : rf? (.val u) with
      | some a =>
        rw [q] at h
        rw [AV.val.inj (rf?_is q)]
        exact fn_call G hS h hA C rs
      | none => rw [q] at h; exact builtin_ok hA.handled C rs h
    | clo k =>
      refine ite_then h fun hc h => sp h (and_is hc fun h1 h2 => ?_)
      obtain ⟨ks, h3, h4⟩ := opt_any h1
      obtain ⟨x, h5, h6⟩ := opt_any h2
      rw [di?_is h3, List.isEmpty_iff.mp h4] at r
      rw [one?_is h5, no?_is h6] at rs
      exact rs.oneI fun u ru => ru.noneI (call_clo G hA C r)
    | _ => exact nn h⟩

theorem cal_call {P : Prims} {R : Rec} (hP : CalS w P.call) : CalS w (stepCall P R) := ⟨by
  intro g ds own r h
  unfold stepCall at h
  cases q : P.call g ds own with
  | some r' => exact hP.ok q
  | none =>
    rw [q] at h
    cases g with
    | val u =>
      cases u with
      | ref a => exact bind_any h fun fn hf _ => (fn_row hf).elim fun i hm => List.all_eq_true.mp (keep_fns w) (a, i) hm
      | builtin f => trivial
      | type f => trivial
      | _ => exact nn h
    | clo k => trivial
    | _ => exact nn h⟩

theorem sound_step {P : Prims} {R : Rec} (G : Gd w base mg mb) (hP : SC w base m P.call) (hK : CalS w P.call) (hPF : SF w base m P.fresh) (hKF : CalS w P.fresh) (hm : m ≤ n) (h : Sound w base n R) : Sound w base (n + 1) (step P R) where
  e := (st_e G h.e h.t h.call h.cal).up (Nat.le_succ n)
  t := (st_t h.e h.t).up (Nat.le_succ n)
  ss := SSs.up ⟨fun h1 ok hA S => st_ss (st_s G h.fresh h.calF h.e h.t h.ss) ok hA h1 S⟩ (Nat.le_succ n)
  call := sound_call G hP (Nat.le_succ_of_le hm) h.ss
  cal := cal_call hK
  fresh := hPF.up (Nat.le_succ_of_le hm)
  calF := hKF

theorem sound_run {P : Prims} (G : Gd w base mg mb) (hP : SC w base m P.call) (hK : CalS w P.call) (hPF : SF w base m P.fresh) (hKF : CalS w P.fresh) (k : Nat) : Sound w base (m + k) (run P k) := by
  induction k with
  | zero => exact ⟨⟨fun h _ _ _ => nn h⟩, ⟨fun h _ _ _ => nn h⟩, ⟨fun h _ _ _ => nn h⟩, ⟨fun h _ _ _ _ => nn h⟩, ⟨fun h => nn h⟩, ⟨fun h _ _ _ _ => nn h⟩, ⟨fun h => nn h⟩⟩
  | succ k ih => exact sound_step G hP hK hPF hKF (Nat.le_add_right m k) ih
end

inductive Fl2 : List DictEntry → List (Str × Value) → Prop
  | nil : Fl2 [] []
  | cons {e : DictEntry} {es : List DictEntry} {x : Str} {t : Tok} {v : Value} {fs : List (Str × Value)} : e.key = .str x t → e.val = v → Fl2 es fs → Fl2 (e :: es) ((x, v) :: fs)
theorem Fl2.length {es : List DictEntry} {fs : List (Str × Value)} (r : Fl2 es fs) : es.length = fs.length := by
  induction r with
  | nil => rfl
  | cons _ _ _ ih => exact congrArg (· + 1) ih
theorem Fl2.off {es : List DictEntry} {fs : List (Str × Value)} (r : Fl2 es fs) {x : Str} (hx : x ∉ fs.map (·.1)) : getL x es = some none ∧ ∀ (h : Int) (k v : Value), putL x h k v es = es ++ [⟨h, k, v⟩] := by
  induction r with
  | nil => exact ⟨rfl, fun _ _ _ => rfl⟩
  | @cons e es y t v fs e1 e2 r ih =>
    obtain ⟨h1, h2⟩ := ih fun q => hx (List.mem_cons_of_mem _ q)
    have hs : e.key.isStr x = false := by rw [e1]; exact beq_eq_false_iff_ne.mpr fun q => hx (List.mem_cons.mpr (.inl q.symm))
    have hr : e.refKey = false := by unfold DictEntry.refKey; rw [e1]
    refine ⟨?_, fun h k v => ?_⟩
    · unfold getL at h1 ⊢
      rw [List.find?_cons, hs, List.any_cons, hr, Bool.false_or]
      exact h1
    · exact (if_neg (by rw [hs]; exact Bool.false_ne_true)).trans (congrArg (e :: ·) (h2 h k v))
theorem Fl2.append {es es' : List DictEntry} {fs fs' : List (Str × Value)} (r : Fl2 es fs) (q : Fl2 es' fs') : Fl2 (es ++ es') (fs ++ fs') := by
  induction r with
  | nil => exact q
  | cons a b _ ih => exact .cons a b ih

noncomputable def chkS (w : World) (C : Addr) (x : Str) : Bool := (findIn (KK w) (.ref C) "__setattr__" == some (some (.builtin "object.__setattr__"))) && (plainOver (KK w) C && ((takerIn (KK w) C x == some none) && hasDictIn (KK w) C))
noncomputable def namesAdt : List Str := ["path", "module", "regions", "params", "variants", "publics", "is_enum"].map Str.ofString
noncomputable def namesWorld : List Str := ["modules", "adts", "variants", "sigs", "traits", "impls", "consts", "bodies"].map Str.ofString
theorem sets_adt (w : World) : (namesAdt.all fun x => chkS w 137 x) = true := by kernel_rfl
theorem sets_world (w : World) : (namesWorld.all fun x => chkS w 166 x) = true := by kernel_rfl

section
variable {w : World} {A : Around} {E : Value → Shared → Prop} {s : Shared} {h₀ : Heap} {L x dx C : Addr} {m : Str → Option Value} {es : List DictEntry} {n : Nat} {rest : List (Addr × Obj)} {fs : List (Str × Value)}

theorem store_one {name : Str} {v : Value} {Q : Unit → Shared → Prop} (F : Fr h₀ L s.heap m) (X₀ : (KK w).In h₀) (N : News h₀ L s.heap ((dx, dictOf es n) :: (x, instObj C dx) :: rest)) (hne : ∀ p ∈ (x, instObj C dx) :: rest, p.1 ≠ dx)
    (hc : chkS w C name = true) (r : Fl2 es fs) (hx : name ∉ fs.map (·.1)) (hz : fs.length + 1 ≤ 1000)
    (h : ∀ h' es' n' t, Fr h₀ L h' m → News h₀ L h' ((dx, dictOf es' n') :: (x, instObj C dx) :: rest) → Fl2 es' (fs ++ [(name, v)]) → Q () { s with heap := h', toks := t }) :
    wpAny (model P0 w) A (setAttr (.ref x) name v) Q E s := by
  obtain ⟨o1, o2⟩ := r.off hx
  refine and_is hc fun h1 hc => and3 hc fun h2 h3 h4 => set_dict F X₀ N (InstAt.of_news N (.tail _ (.head _)) (.head _)) rfl (eq_of_beq h1) h2 (eq_of_beq h3) h4 (by rw [o1]; rfl) rfl (.head hne) (by rw [o2, List.length_append, r.length]; exact hz) fun h' F' N' => ?_
  exact h h' _ _ _ F' N' (o2 _ _ _ ▸ r.append (.cons rfl rfl .nil))
end

noncomputable def cd? : Stmt → Option (List Stmt)
  | .ClassDef _ _ _ b _ _ _ _ _ _ _ => some b
  | _ => none
noncomputable def initOf (k : Nat) : Option Fn := (P0.main.body[k]?).bind fun st => (cd? st).bind fun b => (b[0]?).bind fnOfStmt

noncomputable def nAdt : List Str := [Str.ofString "self", Str.ofString "path", Str.ofString "regions", Str.ofString "params", Str.ofString "variants", Str.ofString "is_enum", Str.ofString "module", Str.ofString "publics"]
noncomputable def nWorld : List Str := [Str.ofString "self", Str.ofString "modules"]


inductive VK where
  | name (x : Str)
  | dct
  | lst
  deriving DecidableEq
noncomputable def as? : Stmt → Option (List Expr × Expr)
  | .Assign ts v _ => some (ts, v)
  | _ => none
theorem as?_is {st : Stmt} {q : List Expr × Expr} (h : as? st = some q) : ∃ p, st = .Assign q.1 q.2 p := by
  cases st with
  | Assign ts v p => exact so h ⟨p, rfl⟩
  | _ => exact nn h
noncomputable def valView (v : Expr) : Option VK := match nm? v with
  | some y => if y.1 == Str.ofString "__debug__" then none else some (.name y.1)
  | none => match dc? v with
    | some d => if d.1.isEmpty && d.2.isEmpty then some .dct else none
    | none => (ls? v).bind fun es => if es.isEmpty then some .lst else none
noncomputable def stView (st : Stmt) : Option (Str × VK) := (as? st).bind fun q => (one? q.1).bind fun t => (at? t).bind fun a => (nm? a.1).bind fun s => if s.1 == Str.ofString "self" then (valView q.2).map fun k => (a.2.1, k) else none

noncomputable abbrev eDct : Obj := { cls := .type "dict", data := .dict #[] }
noncomputable abbrev eLst : Obj := { cls := .type "list", data := .seq #[] }
inductive Mk (m : Str → Option Value) (rest : List (Addr × Obj)) : Nat → List (Str × VK) → List Value → Prop
  | nil {lo : Nat} : Mk m rest lo [] []
  | name {lo : Nat} {a y : Str} {v : Value} {ks : List (Str × VK)} {vs : List Value} : m y = some v → Mk m rest lo ks vs → Mk m rest lo ((a, .name y) :: ks) (v :: vs)
  | dct {lo : Nat} {a : Str} {l : Addr} {ks : List (Str × VK)} {vs : List Value} : lo ≤ l → (l, eDct) ∈ rest → Mk m rest (l + 1) ks vs → Mk m rest lo ((a, .dct) :: ks) (.ref l :: vs)
  | lst {lo : Nat} {a : Str} {l : Addr} {ks : List (Str × VK)} {vs : List Value} : lo ≤ l → (l, eLst) ∈ rest → Mk m rest (l + 1) ks vs → Mk m rest lo ((a, .lst) :: ks) (.ref l :: vs)
theorem Mk.down {m : Str → Option Value} {rest : List (Addr × Obj)} {lo lo' : Nat} {ks : List (Str × VK)} {vs : List Value} (h : Mk m rest lo ks vs) (hl : lo' ≤ lo) : Mk m rest lo' ks vs := by
  induction h generalizing lo' with
  | nil => exact .nil
  | name e _ ih => exact .name e (ih hl)
  | dct h1 h2 h3 _ => exact .dct (Nat.le_trans hl h1) h2 h3
  | lst h1 h2 h3 _ => exact .lst (Nat.le_trans hl h1) h2 h3

section
variable {w : World} {A : Around} {E : Value → Shared → Prop} {h₀ : Heap} {L x dx C a : Addr} {m : Str → Option Value} {nm : Str} {scope : Scope} {cd : Value}

theorem below {b : Nat} {h : Heap} {rest : List (Addr × Obj)} {d : Addr × Obj} {i : Addr × Obj} (hb : b = L ∨ ∃ o, (b, o) ∈ rest) (F : Fr h₀ L h m) (N : News h₀ L h (d :: i :: rest)) : b < h.objs.size :=
  hb.elim (fun q => q ▸ F.ns.elim fun _ r => r.elim fun _ r => r.elim fun _ r => Heap.lt_size r.1) fun q => q.elim fun o hm => Heap.lt_size (N _ (.tail _ (.tail _ hm))).1

structure Ini (h₀ : Heap) (L x dx C : Addr) (m : Str → Option Value) (h : Heap) (b : Nat) (rest : List (Addr × Obj)) (fs : List (Str × Value)) (es : List DictEntry) (n : Nat) : Prop where
  F : Fr h₀ L h m
  N : News h₀ L h ((dx, dictOf es n) :: (x, instObj C dx) :: rest)
  ne : ∀ p ∈ (x, instObj C dx) :: rest, p.1 ≠ dx
  b : b = L ∨ ∃ o, (b, o) ∈ rest
  r : Fl2 es fs
theorem Ini.push {h : Heap} {b : Nat} {rest : List (Addr × Obj)} {fs : List (Str × Value)} {es : List DictEntry} {n : Nat} (I : Ini h₀ L x dx C m h b rest fs es n) {o : Obj} (hf : o.isFreed = false) : Ini h₀ L x dx C m (h.push o) h.objs.size ((h.objs.size, o) :: rest) fs es n where
  F := I.F.push o
  N := fun p hp => have N₁ := News.push I.F I.N o hf
    (List.mem_cons.mp hp).elim (fun q => N₁ p (q ▸ .tail _ (.head _))) fun hp => (List.mem_cons.mp hp).elim (fun q => N₁ p (q ▸ .tail _ (.tail _ (.head _)))) fun hp => (List.mem_cons.mp hp).elim (fun q => N₁ p (q ▸ .head _)) fun q => N₁ p (.tail _ (.tail _ (.tail _ q)))
  ne := fun p hp => (List.mem_cons.mp hp).elim (fun q => I.ne p (q ▸ .head _)) fun hp => (List.mem_cons.mp hp).elim (fun q => q ▸ Nat.ne_of_gt (Heap.lt_size (I.N _ (.head _)).1)) fun q => I.ne p (.tail _ q)
  b := .inr ⟨o, .head _⟩
  r := I.r

noncomputable abbrev IniQ (h₀ : Heap) (L x dx C : Addr) (m : Str → Option Value) (s : Shared) (b : Nat) (rest : List (Addr × Obj)) (fs : List (Str × Value)) (views : List (Str × VK)) (Q : Flow → Shared → Prop) : Prop :=
  ∀ h' b' es' n' rest' vals t, Ini h₀ L x dx C m h' b' rest' (fs ++ (views.map (·.1)).zip vals) es' n' → (∀ p ∈ rest, p ∈ rest') → Mk m rest' (b + 1) views vals → Q .next { s with heap := h', toks := t }

theorem run_init (hk : scope.kind = .function) (X₀ : (KK w).In h₀) (hself : m (Str.ofString "self") = some (.ref x)) (hsl : scope.names.lookup (Str.ofString "self") = some .local) {sts : List Stmt} {views : List (Str × VK)} {s : Shared} {es : List DictEntry} {n b : Nat} {rest : List (Addr × Obj)} {fs : List (Str × Value)} {Q : Flow → Shared → Prop}
    (hv : sts.map stView = views.map some) (I : Ini h₀ L x dx C m s.heap b rest fs es n) (hnd : (fs.map (·.1) ++ views.map (·.1)).Nodup) (hch : (views.all fun k => chkS w C k.1) = true) (hsz : fs.length + views.length ≤ 1000) (hnm : ∀ k ∈ views, ∀ y, k.2 = .name y → (m y).isSome = true ∧ scope.names.lookup y = some .local)
    (hQ : IniQ h₀ L x dx C m s b rest fs views Q) : wpAny (model P0 w) A (execs sts (envOf nm scope L a cd)) Q E s := by
  induction sts generalizing views s es n b rest fs with
  | nil =>
    cases views with
    | cons _ _ => exact (List.cons_ne_nil _ _ hv.symm).elim
    | nil => exact wpAny_execs_nil (hQ s.heap b es n rest [] s.toks (by rw [List.map_nil, List.zip_nil_left, List.append_nil]; exact I) (fun _ h => h) .nil)
  | cons st sts ih =>
    cases views with
    | nil => exact (List.cons_ne_nil _ _ hv).elim
    | cons k views =>
      obtain ⟨at_, k⟩ := k
      obtain ⟨hv1, hv2⟩ := List.cons.inj hv
      have hfresh : at_ ∉ fs.map (·.1) := fun q => (List.nodup_append.mp hnd).2.2 at_ q at_ List.mem_cons_self rfl
      refine wpAny_execs_cons (bind_any hv1 fun q h1 h => bind_any h fun t h2 h => bind_any h fun a' h3 h => bind_any h fun sn h4 h => ite_then h fun hs h => map_any h fun kk h5 e => pair_is e fun ha hkk => ?_)
      obtain ⟨p, e1⟩ := as?_is h1
      rw [e1, one?_is h2, at?_is h3, nm?_is h4, eq_of_beq hs, ha]
      have go : ∀ {s₁ : Shared} {b' : Nat} {rest₁ : List (Addr × Obj)} {u : Value} {pp : Pos}, Ini h₀ L x dx C m s₁.heap b' rest₁ fs es n → IniQ h₀ L x dx C m s₁ b' rest₁ (fs ++ [(at_, u)]) views Q →
          wpAny (model P0 w) A (eval (.Name (Str.ofString "self") pp) (envOf nm scope L a cd)) (fun ov s₂ => wpAny (model P0 w) A (setAttr ov at_ u) (fun _ s' => wpAny (model P0 w) A (execs sts (envOf nm scope L a cd)) Q E s') E s₂) E s₁ := fun {s₁ b' rest₁ u pp} I₁ hQ₁ =>
        ld I₁.F hself (store_one I₁.F X₀ I₁.N I₁.ne (Bool.and_eq_true_iff.mp hch).1 I₁.r hfresh (Nat.le_trans (Nat.add_le_add_left (Nat.le_add_left 1 views.length) _) hsz) fun h' es' n' t F' N' r' =>
          ih (s := { s₁ with heap := h', toks := t }) hv2 ⟨F', N', I₁.ne, I₁.b, r'⟩ (by rw [List.map_append, List.append_assoc]; exact hnd) (Bool.and_eq_true_iff.mp hch).2 (by rw [List.length_append, Nat.add_assoc, Nat.add_comm [(at_, u)].length]; exact hsz) (fun k hk => hnm k (List.mem_cons_of_mem _ hk)) fun h2 b2 es2 n2 rest2 vals t2 I2 sub2 m2 => hQ₁ h2 b2 es2 n2 rest2 vals t2 I2 sub2 m2) hk hsl (by decide +kernel)
      have made : ∀ {o : Obj} {v : Expr}, o.isFreed = false → isComp v = false → (∀ (rest' : List (Addr × Obj)) (vals : List Value), (s.heap.objs.size, o) ∈ rest' → Mk m rest' (s.heap.objs.size + 1) views vals → Mk m rest' (b + 1) ((at_, k) :: views) (.ref s.heap.objs.size :: vals)) →
          (∀ Q' : Value → Shared → Prop, Q' (.ref s.heap.objs.size) { s with heap := s.heap.push o } → wpAny (model P0 w) A (eval v (envOf nm scope L a cd)) Q' E s) →
          wpAny (model P0 w) A (exec (.Assign [.Attribute (.Name (Str.ofString "self") sn.2) at_ a'.2.2] v p) (envOf nm scope L a cd)) (fun f s' => match f with | .next => wpAny (model P0 w) A (execs sts (envOf nm scope L a cd)) Q E s' | f => Q f s') E s := fun {o v} hfr hcmp hmk hev =>
        plainObj_wpAny_Assign_Attribute (hev _ (go (s₁ := { s with heap := s.heap.push o }) (I.push hfr) fun h' b' es' n' rest' vals t I' sub' m' => hQ h' b' es' n' rest' (.ref s.heap.objs.size :: vals) t (by rw [List.append_assoc] at I'; exact I') (fun p hp => sub' p (.tail _ hp)) (hmk rest' vals (sub' _ (.head _)) m'))) (no_swap hcmp _ _ _)
      have hlt := below I.b I.F I.N
      unfold valView at h5
      cases z : nm? q.2 with
      | some y =>
        rw [z] at h5
        refine ite_else h5 fun hdb h5 => ?_
        have hkk : VK.name y.1 = k := (Option.some.inj h5).trans hkk
        rw [nm?_is z]
        obtain ⟨n1, n2⟩ := hnm _ List.mem_cons_self y.1 hkk.symm
        obtain ⟨u, hu⟩ := Option.isSome_iff_exists.mp n1
        exact plainObj_wpAny_Assign_Attribute (ld I.F hu (go I fun h' b' es' n' rest' vals t I' sub' m' => hQ h' b' es' n' rest' (u :: vals) t (by rw [List.append_assoc] at I'; exact I') sub' (hkk ▸ .name hu m')) hk n2 (Bool.eq_false_iff.mpr hdb)) (no_swap rfl _ _ _)
      | none =>
        rw [z] at h5
        cases z : dc? q.2 with
        | some d =>
          rw [z] at h5
          refine ite_then h5 fun hc h5 => ?_
          have hkk : VK.dct = k := (Option.some.inj h5).trans hkk
          obtain ⟨pp, e2⟩ := dc?_is z
          rw [e2, List.isEmpty_iff.mp (Bool.and_eq_true_iff.mp hc).1, List.isEmpty_iff.mp (Bool.and_eq_true_iff.mp hc).2]
          exact made (o := eDct) rfl rfl (fun rest' vals hm m' => hkk ▸ .dct hlt hm m') fun Q' hq => wpAny_Dict_empty hq
        | none =>
          rw [z] at h5
          refine bind_any h5 fun es h6 h5 => ite_then h5 fun hc h5 => ?_
          have hkk : VK.lst = k := (Option.some.inj h5).trans hkk
          obtain ⟨pp, e2⟩ := ls?_is h6
          rw [e2, List.isEmpty_iff.mp hc]
          exact made (o := eLst) rfl rfl (fun rest' vals hm m' => hkk ▸ .lst hlt hm m') fun Q' hq => wpAny_List (wpAny_pure ⟨Nat.zero_le _, hq⟩)
end

structure Cls (w : World) (Cc fI : Nat) (fn : Fn) (fd : FuncData) (views : List (Str × VK)) (k : Nat) (ds : List Value) : Prop where
  makes : makesIn (KK w) Cc = true
  init : findIn (KK w) (.ref Cc) "__init__" = some (some (.ref fI))
  typ : typeIn (KK w) (.ref fI) = some (.type "function")
  at_ : ∃ oc od osl, (KK w).lookup fI = some ⟨oc, od, .func fd, osl⟩
  sc : fd.scope = fn.sc
  body : fd.body = .stmts fn.body
  closure : fd.closure = []
  globals : fd.globals = mainGlobals
  builtins : fd.builtins = builtinsNs
  binds : ∀ (s : Shared) (f : Nat → Value), (KK w).In s.heap → BindsTo s fd ⟨(List.range k).map f, []⟩ (fn.params.zip ((List.range k).map f ++ ds))
  code : codeIn (KK w) fd.code fd.qualname = true
  kind : fn.sc.kind = .function
  co : fn.sc.isCoroutine = false
  gen : fn.sc.isGenerator = false
  nocell : ∀ x ∈ fn.sc.names, x.2 ≠ .cell
  local_ : ∀ x ∈ fn.params, fn.sc.names.lookup x = some .local
  self_ : Str.ofString "self" ∈ fn.params
  views_ : fn.body.map stView = views.map some
  nodup : (views.map (·.1)).Nodup
  chk : (views.all fun k => chkS w Cc k.1) = true
  small : views.length ≤ 1000
  names : ∀ k ∈ views, ∀ y, k.2 = .name y → y ∈ fn.params
  weight : ∀ us, (Code.builtin "type.__call__" ⟨.ref Cc :: us, []⟩).weight = 1

section
variable {w : World} {base : Heap} {mg mb : Str → Option Value} {X μ : List Addr} {own own' : Own} {A : Around} {s : Shared} {n : Nat}

inductive Made (w : World) (s : Shared) (Cc : Nat) (views : List (Str × VK)) (ps : List Str) (vals : Addr → List Value) (x : Addr) (h' : Heap) : Prop
  | mk (dx L : Addr) (es : List DictEntry) (n' : Nat) (rest : List (Addr × Obj)) (vs : List Value) (keep : ∀ b o, s.heap.get? b = some o → h'.get? b = some o) (N : News s.heap L h' ((dx, dictOf es n') :: (x, instObj Cc dx) :: rest)) (r : Fl2 es ((views.map (·.1)).zip vs)) (le : s.heap.objs.size ≤ dx) (lt : dx < x) (ltL : x < L) (m : Mk (fun y => (ps.zip (vals x)).reverse.lookup y) rest (L + 1) views vs)
theorem call_cls_of {Cc fI k : Nat} {fn : Fn} {fd : FuncData} {views : List (Str × VK)} {ds : List Value} (G : Gd w base mg mb) (K : Cls w Cc fI fn fd views (k + 1) ds) (hA : Room A 1) (C : Core w base X μ own s.heap) {us : List Value} {Q : Value → Shared → Prop} (hk : us.length = k) (hlen : fn.params.length = k + 1 + ds.length)
    (hself : ∀ x : Addr, (fn.params.zip (.ref x :: us ++ ds)).reverse.lookup (Str.ofString "self") = some (.ref x))
    (hnm : ∀ x : Addr, ∀ y ∈ fn.params, ((fn.params.zip (.ref x :: us ++ ds)).reverse.lookup y).isSome = true)
    (hQ : ∀ x h' t, Made w s Cc views fn.params (fun x => .ref x :: us ++ ds) x h' → Q (.ref x) { s with heap := h', toks := t }) :
    wpAny (model P0 w) A (call (.ref Cc) us []) Q noE s := by
  obtain ⟨hh, g, d, t, os⟩ := s
  have X' : (KK w).In hh := fun a o e => C.stays _ _ (G.kin a o e)
  have keep1 : ∀ b o, hh.get? b = some o → ((hh.push emptyDict).push (instObj Cc hh.objs.size)).get? b = some o := fun b o e => Heap.get?_push_of_some _ (Heap.get?_push_of_some _ e)
  obtain ⟨oc, od, osl, hK⟩ := K.at_
  refine wpAny_call (make_core (makes_of X' K.makes) (looks_findIn X' K.init) (fun self => bind_fn X' self K.typ) (.inl rfl) ?_)
  have hroom : (A.under (.builtin "type.__call__" ⟨.ref Cc :: us, []⟩)).depth < recursionLimit := by
    show A.depth + (Code.builtin "type.__call__" ⟨.ref Cc :: us, []⟩).weight < recursionLimit
    rw [K.weight]; exact hA.depth
  refine codeAny_call_function (fd := fd) (body := fn.body) hroom (keep1 _ _ (X' _ _ hK)) rfl (by rw [K.sc]; exact K.co) (by rw [K.sc]; exact K.gen) K.body ((codeRec_of X' K.code).keeps keep1) ?_
  have hargs : ∀ x : Addr, (List.range (k + 1)).map (fun i => ((Value.ref x :: us)[i]?).getD .none) = .ref x :: us := fun x => by
    rw [← hk]
    refine List.ext_getElem (by rw [List.length_map, List.length_range]; rfl) fun i h1 h2 => ?_
    rw [List.getElem_map, List.getElem_range, List.getElem?_eq_getElem h2, Option.getD_some]
  have hb := K.binds ⟨(hh.push emptyDict).push (instObj Cc hh.objs.size), g, d, t, os⟩ (fun i => ((Value.ref (hh.objs.size + 1) :: us)[i]?).getD .none) fun a o e => keep1 a o (X' a o e)
  rw [hargs] at hb
  refine hb _ _ _ _ ?_
  rw [K.closure]
  have e1 : (hh.push emptyDict).objs.size = hh.objs.size + 1 := Heap.size_push ..
  have hsz : ((hh.push emptyDict).push (instObj Cc hh.objs.size)).objs.size = hh.objs.size + 2 := by rw [Heap.size_push, e1]
  have g1 : ((hh.push emptyDict).push (instObj Cc hh.objs.size)).get? hh.objs.size = some emptyDict := Heap.get?_push_of_some _ (Heap.get?_push_size _ rfl)
  have g2 : ((hh.push emptyDict).push (instObj Cc hh.objs.size)).get? (hh.objs.size + 1) = some (instObj Cc hh.objs.size) := e1 ▸ Heap.get?_push_size _ rfl
  generalize hx : hh.objs.size + 1 = x at *
  generalize (hh.push emptyDict).push (instObj Cc hh.objs.size) = h₁ at *
  have hloc : ∀ y ∈ fn.params.zip (.ref x :: us ++ ds), fn.sc.names.lookup y.1 = some .local := fun y hy => K.local_ _ (List.of_mem_zip hy).1
  rw [K.sc, K.globals, K.builtins]
  refine wpAny_newFunctionEnv K.nocell hloc (fun h₂ hns hsb => ⟨((G.lim.keeps C.stays).keeps keep1).fresh _ hsb, codeAny_func ?_⟩) K.kind
  have keep2 : ∀ b o, h₁.get? b = some o → h₂.get? b = some o := fun b o e => hsb.extBut b o (Nat.ne_of_lt (Heap.lt_size e)) (Heap.get?_push_of_some _ e)
  have F : Fr hh h₁.objs.size h₂ (fun y => (fn.params.zip (.ref x :: us ++ ds)).reverse.lookup y) := ⟨hns, fun b o e => keep2 b o (keep1 b o e), by rw [hsz]; exact Nat.le_add_right _ _⟩
  have N : News hh h₁.objs.size h₂ [(hh.objs.size, dictOf [] 0), (x, instObj Cc hh.objs.size)] := fun p hp => (List.mem_cons.mp hp).elim
    (fun q => q ▸ ⟨keep2 _ _ g1, by rw [hsz]; exact Nat.ne_of_lt (Nat.lt_add_of_pos_right (by decide)), none_above (Nat.le_refl _)⟩)
    fun q => List.mem_singleton.mp q ▸ ⟨keep2 _ _ g2, by rw [hsz, ← hx]; exact Nat.ne_of_lt (Nat.lt_succ_self _), none_above (hx ▸ Nat.le_succ _)⟩
  refine run_init (nm := fd.qualname) (b := h₁.objs.size) K.kind X' (hself x) (K.local_ _ K.self_) K.views_ ⟨F, N, fun p hp => List.mem_singleton.mp hp ▸ (hx ▸ Nat.ne_of_gt (Nat.lt_succ_self _)), .inl rfl, .nil⟩ (by rw [List.map_nil, List.nil_append]; exact K.nodup) K.chk (by rw [List.length_nil, Nat.zero_add]; exact K.small)
    (fun k hk y e => ⟨hnm x y (K.names k hk y e), K.local_ _ (K.names k hk y e)⟩) fun h' b' es' n' rest' vals t' I' _ m' => ⟨rfl, hQ x h' t' ⟨hh.objs.size, h₁.objs.size, es', n', rest', vals, I'.F.keep, I'.N, I'.r, Nat.le_refl _, hx ▸ Nat.lt_succ_self _, by rw [hsz, ← hx]; exact Nat.lt_succ_self _, m'⟩⟩
end

noncomputable def viewsAdt : List (Str × VK) := namesAdt.map fun x => (x, .name x)
noncomputable def viewsWorld : List (Str × VK) := (namesWorld.zip [VK.name (Str.ofString "modules"), .dct, .dct, .dct, .dct, .lst, .dct, .dct])

structure ClsRow where
  C : Nat
  f : Nat
  k : Nat
  n : Nat
  ds : List Value
  ps : List Str
  views : List (Str × VK)
noncomputable def rowsC : List ClsRow := [⟨137, 134, 25, 6, [.str (Str.ofString "") 358, .ref 126], nAdt, viewsAdt⟩, ⟨166, 156, 26, 1, [.none], nWorld, viewsWorld⟩]

theorem cl_makes (w : World) : (rowsC.all fun r => makesIn (KK w) r.C) = true := by kernel_rfl
theorem cl_init (w : World) : (rowsC.map fun r => findIn (KK w) (.ref r.C) "__init__") = rowsC.map fun r => some (some (.ref r.f)) := by kernel_rfl
theorem cl_typ (w : World) : (rowsC.map fun r => typeIn (KK w) (.ref r.f)) = rowsC.map fun _ => some (.type "function") := by kernel_rfl
theorem cl_look (w : World) : (rowsC.map fun r => (fdOf w r.f).map look) = rowsC.map fun r => (initOf r.k).map want := by kernel_rfl
noncomputable abbrev cbL (K : Frag) (fd : FuncData) (n : Nat) (S : Setting) (f : Nat → Value) : Option (List (Str × Value)) := peek K S (bindArgs fd ⟨(List.range n).map f, []⟩)
noncomputable abbrev cbR (ps : List Str) (n : Nat) (ds : List Value) (_ : Setting) (f : Nat → Value) : Option (List (Str × Value)) := some (ps.zip ((List.range n).map f ++ ds))
theorem cl_binds (w : World) : (rowsC.map fun r => (fdOf w r.f).map fun fd => cbL (KK w) fd r.n) = rowsC.map fun r => some (cbR r.ps r.n r.ds) := by kernel_rfl
theorem cl_code (w : World) : (rowsC.all fun r => (fdOf w r.f).any fun fd => codeIn (KK w) fd.code fd.qualname) = true := by kernel_rfl
noncomputable def goodC (fn : Fn) : Bool := (fn.sc.kind == .function && (!fn.sc.isCoroutine && !fn.sc.isGenerator)) && ((fn.params.all fun x => fn.sc.names.lookup x == some .local) && fn.sc.names.all fun y => y.2 != .cell)
theorem cl_good : (rowsC.all fun r => (initOf r.k).any goodC) = true := by decide +kernel
theorem cl_params : (rowsC.map fun r => (initOf r.k).map (·.params)) = rowsC.map fun r => some r.ps := by kernel_rfl
theorem cl_views : (rowsC.map fun r => (initOf r.k).map fun fn => fn.body.map stView) = rowsC.map fun r => some (r.views.map some) := by kernel_rfl
theorem cl_chk (w : World) : (rowsC.all fun r => r.views.all fun k => chkS w r.C k.1) = true := by kernel_rfl
noncomputable def inPs (ps : List Str) : VK → Bool
  | .name y => ps.contains y
  | _ => true
theorem cl_nodup : (rowsC.all fun r => decide ((r.views.map (·.1)).Nodup) && (decide (r.views.length ≤ 1000) && (r.ps.contains (Str.ofString "self") && r.views.all fun k => inPs r.ps k.2))) = true := by decide +kernel

theorem cls_of (w : World) {r : ClsRow} (hr : r ∈ rowsC) (hw : ∀ us, (Code.builtin "type.__call__" ⟨.ref r.C :: us, []⟩).weight = 1) : ∃ fn fd, fn.params = r.ps ∧ Cls w r.C r.f fn fd r.views r.n r.ds := by
  have e4 := List.map_inj_left.mp (cl_look w) r hr
  have e5 := List.map_inj_left.mp (cl_binds w) r hr
  have e7 := List.map_inj_left.mp cl_params r hr
  have e8 := List.map_inj_left.mp cl_views r hr
  obtain ⟨fn, hfn, e6⟩ := opt_any (List.all_eq_true.mp cl_good r hr)
  obtain ⟨fd, hfd, ec⟩ := opt_any (List.all_eq_true.mp (cl_code w) r hr)
  rw [hfn] at e4 e7 e8
  rw [hfd] at e4 e5
  have e4 := Option.some.inj e4
  have e7 : fn.params = r.ps := Option.some.inj e7
  refine and_is e6 fun q q' => and3 q fun q1 q2 q3 => and_is q' fun q4 q5 => and_is (List.all_eq_true.mp cl_nodup r hr) fun z1 z => and3 z fun z2 z3 z4 => ?_
  exact ⟨fn, fd, e7, ⟨List.all_eq_true.mp (cl_makes w) r hr, List.map_inj_left.mp (cl_init w) r hr, List.map_inj_left.mp (cl_typ w) r hr, fdOf_at hfd, congrArg (·.1) e4, congrArg (·.2.1) e4, congrArg (·.2.2.1) e4, congrArg (·.2.2.2.1) e4, congrArg (·.2.2.2.2) e4,
    fun s f X => kp_binds X fun S => (congrFun (congrFun (Option.some.inj e5) S) f).trans (by rw [e7]), ec, eq_of_beq q1, Bool.not_inj (q2.trans rfl), Bool.not_inj (q3.trans rfl), fun x hx => bne_iff_ne.mp (List.all_eq_true.mp q5 x hx), fun x hx => eq_of_beq (List.all_eq_true.mp q4 x hx),
    e7 ▸ List.elem_iff.mp z3, Option.some.inj e8, of_decide_eq_true z1, List.all_eq_true.mp (cl_chk w) r hr, of_decide_eq_true z2, fun k hk y e => e7 ▸ List.elem_iff.mp (show inPs r.ps (.name y) = true from e ▸ List.all_eq_true.mp z4 k hk), hw⟩⟩
theorem cls_adt (w : World) : ∃ fn fd, fn.params = nAdt ∧ Cls w 137 134 fn fd viewsAdt (5 + 1) [.str (Str.ofString "") 358, .ref 126] := cls_of w (r := ⟨137, 134, 25, 6, [.str (Str.ofString "") 358, .ref 126], nAdt, viewsAdt⟩) (.head _) fun us => by kernel_rfl
theorem cls_world (w : World) : ∃ fn fd, fn.params = nWorld ∧ Cls w 166 156 fn fd viewsWorld (0 + 1) [.none] := cls_of w (r := ⟨166, 156, 26, 1, [.none], nWorld, viewsWorld⟩) (.tail _ (.head _)) fun us => by kernel_rfl

noncomputable def adtAV (nm : AV) (ps : AV) (rows : AV) (e : Bool) : AV := .inst 137 [(Str.ofString "path", nm), (Str.ofString "module", .str (Str.ofString "")), (Str.ofString "regions", .tup []), (Str.ofString "params", ps), (Str.ofString "variants", rows), (Str.ofString "publics", .tup []), (Str.ofString "is_enum", .bool e)]
noncomputable def worldOf (adts : AV) : AV := .inst 166 [(Str.ofString "modules", .none), (Str.ofString "adts", adts), (Str.ofString "variants", .dct []), (Str.ofString "sigs", .dct []), (Str.ofString "traits", .dct []), (Str.ofString "impls", .lst []), (Str.ofString "consts", .dct []), (Str.ofString "bodies", .dct [])]

noncomputable def tl? : List AV → Option (AV × AV × AV × AV × AV)
  | [p, r, ps, vs, e] => some (p, r, ps, vs, e)
  | _ => none
theorem tl?_is {ds : List AV} {q : AV × AV × AV × AV × AV} (h : tl? ds = some q) : ds = [q.1, q.2.1, q.2.2.1, q.2.2.2.1, q.2.2.2.2] := by
  match ds, h with
  | [_, _, _, _, _], h => exact so h rfl
noncomputable def pAt (a : Nat) (g : List AV → Own → Option (AV × Own)) (f : AV → List AV → Own → Option (AV × Own)) (v : AV) (ds : List AV) (own : Own) : Option (AV × Own) := if rf? v == some a then (match g ds own with
  | some r => some r
  | none => f v ds own) else f v ds own
noncomputable def pNone (_ : AV) (_ : List AV) (_ : Own) : Option (AV × Own) := none
noncomputable def adtP (ds : List AV) (own : Own) : Option (AV × Own) := (tl? ds).bind fun q => if AV.same q.2.1 (.tup []) then (bl? q.2.2.2.2).map fun e => (adtAV q.1 q.2.2.1 q.2.2.2.1 e, own) else none
noncomputable def call0 : AV → List AV → Own → Option (AV × Own) := pAt 137 adtP pNone
noncomputable def worldP (ds : List AV) (own : Own) : Option (AV × Own) := if ds.isEmpty then some (worldOf (.loc own.length), own ++ [.dct []]) else none
noncomputable def fresh0 : AV → List AV → Own → Option (AV × Own) := pAt 166 worldP pNone
noncomputable def pr0 : Prims := ⟨call0, fresh0⟩

theorem keep_prims (w : World) : ([36, 43, 98, 137, 67, 62, 74, 113, 118, 222, 241, 208, 184, 191, 198, 203, 166, 177, 215, 227, 234].all fun a => keepIn (KK w) (.ref a)) = true := by kernel_rfl
theorem keep_prim {w : World} {a : Nat} (h : a ∈ [36, 43, 98, 137, 67, 62, 74, 113, 118, 222, 241, 208, 184, 191, 198, 203, 166, 177, 215, 227, 234]) : CalOk w (.val (.ref a)) := List.all_eq_true.mp (keep_prims w) a h

theorem CalS.at {w : World} {a : Nat} {g : List AV → Own → Option (AV × Own)} {f : AV → List AV → Own → Option (AV × Own)} (ha : CalOk w (.val (.ref a))) (hf : CalS w f) : CalS w (pAt a g f) := ⟨fun {v ds own r} h => ite_any h (fun hv h => rf?_is (eq_of_beq hv) ▸ ha) fun _ h => hf.ok h⟩
theorem CalS.none {w : World} : CalS w pNone := ⟨fun h => nn h⟩
theorem cal0 {w : World} : CalS w call0 := .at (keep_prim (by decide)) .none
theorem calF0 {w : World} : CalS w fresh0 := .at (keep_prim (by decide)) .none

theorem t127 (w : World) : (KK w).lookup 127 = some { cls := .type "tuple", data := .seq #[.str (Str.ofString "") 358, .ref 126] } := by kernel_rfl
theorem t126 (w : World) : (KK w).lookup 126 = some { cls := .type "tuple", data := .seq #[] } := by kernel_rfl
theorem t149 (w : World) : (KK w).lookup 149 = some { cls := .type "tuple", data := .seq #[.none] } := by kernel_rfl

section
variable {w : World} {base : Heap} {mg mb : Str → Option Value} {X μ : List Addr} {own own' : Own} {A : Around} {s : Shared} {n : Nat}

theorem vrf_of {h : Heap} {es : List DictEntry} {fs : List (Str × Value)} {gs : List (Str × AV)} (r : Fl2 es fs) (q : VRk w h X μ gs fs) : VRf w h X μ gs es := by
  induction r generalizing gs with
  | nil => cases q; exact .nil
  | cons e1 e2 r ih =>
    cases q with
    | cons rv q => exact .cons e1 (by rw [e2]; exact rv) (ih q)

theorem SC.at {a : Nat} {g : List AV → Own → Option (AV × Own)} {f : AV → List AV → Own → Option (AV × Own)} (hf : SC w base n f)
    (hg : ∀ {X μ : List Addr} {ds : List AV} {own : Own} {d : AV} {own' : Own} {us : List Value} {A : Around} {s : Shared}, g ds own = some (d, own') → Room A n → Core w base X μ own s.heap → VRs w s.heap X μ ds us → wpAny (model P0 w) A (call (.ref a) us []) (AftC w base X μ s own' d) noE s) : SC w base n (pAt a g f) := ⟨by
  intro X μ v ds own d own' u us A s h hA C r rs
  refine ite_any h (fun hv h => ?_) fun _ h => hf.ok h hA C r rs
  have hv := rf?_is (eq_of_beq hv)
  cases q : g ds own with
  | none => rw [q] at h; exact hf.ok h hA C r rs
  | some z =>
    rw [q] at h
    rw [hv] at r
    exact r.valI (hg (q.trans h) hA C rs)⟩
theorem SC.none : SC w base n pNone := ⟨fun h => nn h⟩
theorem SF.at {a : Nat} {g : List AV → Own → Option (AV × Own)} {f : AV → List AV → Own → Option (AV × Own)} (hf : SF w base n f)
    (hg : ∀ {X μ : List Addr} {ds : List AV} {own : Own} {d : AV} {own' : Own} {us : List Value} {A : Around} {s : Shared}, g ds own = some (d, own') → Room A n → Core w base X μ own s.heap → VRs w s.heap X μ ds us → wpAny (model P0 w) A (call (.ref a) us []) (AftK w base X μ s own' d) noE s) : SF w base n (pAt a g f) := ⟨by
  intro X μ v ds own d own' u us A s h hA C r rs
  refine ite_any h (fun hv h => ?_) fun _ h => hf.ok h hA C r rs
  have hv := rf?_is (eq_of_beq hv)
  cases q : g ds own with
  | none => rw [q] at h; exact hf.ok h hA C r rs
  | some z =>
    rw [q] at h
    rw [hv] at r
    exact r.valI (hg (q.trans h) hA C rs)⟩
theorem SF.none : SF w base n pNone := ⟨fun h => nn h⟩

theorem snoc_cons (pre : List Value) (u : Value) (vs : List Value) : pre ++ u :: vs = (pre ++ [u]) ++ vs := by rw [List.append_assoc]; rfl
theorem Mk.nameI {m : Str → Option Value} {rest : List (Addr × Obj)} {lo : Nat} {a y : Str} {ks : List (Str × VK)} {vs : List Value} {es : List DictEntry} {ns : List Str} {pre : List Value} {G : Prop} {u : Value} (h : Mk m rest lo ((a, .name y) :: ks) vs) (q : Fl2 es (ns.zip (pre ++ vs))) (hm : m y = some u) (k : ∀ vs, Fl2 es (ns.zip ((pre ++ [u]) ++ vs)) → Mk m rest lo ks vs → G) : G := by
  cases h with
  | name e r => exact k _ (Option.some.inj (e.symm.trans hm) ▸ snoc_cons pre .. ▸ q) r
theorem Mk.nilI {m : Str → Option Value} {rest : List (Addr × Obj)} {lo : Nat} {vs : List Value} {es : List DictEntry} {ns : List Str} {pre : List Value} {G : Prop} (h : Mk m rest lo [] vs) (q : Fl2 es (ns.zip (pre ++ vs))) (k : Fl2 es (ns.zip pre) → G) : G := by
  cases h; exact k (List.append_nil pre ▸ q)
theorem Mk.dctI {m : Str → Option Value} {rest : List (Addr × Obj)} {lo : Nat} {a : Str} {ks : List (Str × VK)} {vs : List Value} {es : List DictEntry} {ns : List Str} {pre : List Value} {G : Prop} (h : Mk m rest lo ((a, .dct) :: ks) vs) (q : Fl2 es (ns.zip (pre ++ vs))) (k : ∀ l vs, Fl2 es (ns.zip ((pre ++ [.ref l]) ++ vs)) → lo ≤ l → (l, eDct) ∈ rest → Mk m rest (l + 1) ks vs → G) : G := by
  cases h with
  | dct b i r => exact k _ _ (snoc_cons pre .. ▸ q) b i r
theorem Mk.lstI {m : Str → Option Value} {rest : List (Addr × Obj)} {lo : Nat} {a : Str} {ks : List (Str × VK)} {vs : List Value} {es : List DictEntry} {ns : List Str} {pre : List Value} {G : Prop} (h : Mk m rest lo ((a, .lst) :: ks) vs) (q : Fl2 es (ns.zip (pre ++ vs))) (k : ∀ l vs, Fl2 es (ns.zip ((pre ++ [.ref l]) ++ vs)) → lo ≤ l → (l, eLst) ∈ rest → Mk m rest (l + 1) ks vs → G) : G := by
  cases h with
  | lst b i r => exact k _ _ (snoc_cons pre .. ▸ q) b i r

theorem adt_made {u1 u2 u3 u4 u5 : Value} {x : Addr} {h' : Heap} {d1 d3 d4 : AV} {e : Bool} (G : Gd w base mg mb) (C : Core w base X μ own s.heap) (M : Made w s 137 viewsAdt nAdt (fun x => .ref x :: [u1, u2, u3, u4, u5] ++ [.str (Str.ofString "") 358, .ref 126]) x h')
    (r1 : VR w s.heap X μ d1 u1) (r2 : VR w s.heap X μ (.tup []) u2) (r3 : VR w s.heap X μ d3 u3) (r4 : VR w s.heap X μ d4 u4) (r5 : VR w s.heap X μ (.bool e) u5) : VR w h' X μ (adtAV d1 d3 d4 e) (.ref x) ∧ ∀ b o, s.heap.get? b = some o → h'.get? b = some o := by
  obtain ⟨dx, L, es, n', rest, vs, kept, N, fl, le, lt, ltL, mk⟩ := M
  have up : ∀ {u : Value} {d : AV}, VR w s.heap X μ d u → VR w h' X μ d u := fun q => q.mono (fun a o e hn => ⟨hn, kept a o e⟩) ⟨[], (List.append_nil _).symm⟩
  have hb := G.kin _ _ (t126 w)
  have h126 : VR w h' X μ (.tup []) (.ref 126) := .tup (vs := #[]) ⟨0, kept _ _ (C.stays _ _ hb)⟩ (fun hx => nn ((C.baseX _ hx).1.symm.trans hb)) .nil
  refine ⟨?_, kept⟩
  refine mk.nameI (u := u1) (pre := []) fl (by kernel_rfl) fun vs fl mk => ?_
  refine mk.nameI (u := .str (Str.ofString "") 358) fl (by kernel_rfl) fun vs fl mk => ?_
  refine mk.nameI (u := u2) fl (by kernel_rfl) fun vs fl mk => ?_
  refine mk.nameI (u := u3) fl (by kernel_rfl) fun vs fl mk => ?_
  refine mk.nameI (u := u4) fl (by kernel_rfl) fun vs fl mk => ?_
  refine mk.nameI (u := .ref 126) fl (by kernel_rfl) fun vs fl mk => ?_
  refine mk.nameI (u := u5) fl (by kernel_rfl) fun vs fl mk => ?_
  refine mk.nilI fl fun fl => ?_
  exact .inst (N _ (.tail _ (.head _))).1 (N _ (.head _)).1 (C.new (N _ (.tail _ (.head _))).2.2) (C.new (N _ (.head _)).2.2)
    (vrf_of fl (.cons (up r1) (.cons (.str _ _) (.cons (up r2) (.cons (up r3) (.cons (up r4) (.cons h126 (.cons (up r5) .nil))))))))

theorem sc0 (G : Gd w base mg mb) : SC w base 1 call0 := .at .none fun {X μ ds own d own' us A s} h hA C rs => by
  refine bind_any h fun q h1 h => ite_then h fun h2 h => mp h fun e h3 => ?_
  rw [tl?_is h1, AV.same_eq h2, bl?_is h3] at rs
  obtain ⟨fn, fd, hp, K⟩ := cls_adt w
  refine rs.consI fun u1 _ r1 rs => rs.consI fun u2 _ r2 rs => rs.consI fun u3 _ r3 rs => rs.twoI fun u4 u5 r4 r5 => ?_
  refine call_cls_of G K hA C (us := [u1, u2, u3, u4, u5]) rfl (by rw [hp]; rfl) (fun x => by rw [hp]; kernel_rfl) (fun x y hy => ?_) fun x h' t M => ?_
  · rw [hp] at hy ⊢
    exact List.all_eq_true.mp (show (nAdt.all fun y => ((nAdt.zip [Value.ref x, u1, u2, u3, u4, u5, .str (Str.ofString "") 358, .ref 126]).reverse.lookup y).isSome) = true by kernel_rfl) y hy
  · rw [hp] at M
    obtain ⟨r, kept⟩ := adt_made G C M r1 r2 r3 r4 r5
    exact ⟨h', t, rfl, .grown kept, C.grown kept, r⟩

theorem Core.big {h : Heap} (C : Core w base X μ own h) : @LT.lt Nat _ 83 h.objs.size := C.lt C.tabX

theorem dict_empty {h : Heap} {a : Addr} {K : Type} [DecidableEq K] {knd : KeyKind P0 w K} (e : h.get? a = some eDct) : h.DictOf knd a [] := ⟨eDct, #[], 0, e, ⟨rfl, rfl, rfl⟩, rfl, fun _ h => absurd h (Array.not_mem_empty _), .nil, .nil⟩
theorem dictH_empty {h : Heap} {a : Addr} (e : h.get? a = some eDct) : h.DictOfH (tyKind w) a [] := by
  obtain ⟨o, es, ep, ho, hr⟩ := Heap.DictOfH.new (knd := tyKind w) h
  rw [Heap.get?_push_size _ rfl] at ho
  have ho : eDct = o := Option.some.inj ho
  exact ⟨o, es, ep, ho ▸ e, hr.1, hr.2.1, hr.2.2.1, (fun x hx => (List.not_mem_nil hx).elim), hr.2.2.2.2⟩

theorem sf0 (G : Gd w base mg mb) : SF w base 1 fresh0 := .at .none fun {X μ ds own d own' us A s} h hA C rs => by
  refine ite_then h fun h1 h => sp h ?_
  rw [List.isEmpty_iff.mp h1] at rs
  obtain ⟨fn, fd, hp, K⟩ := cls_world w
  refine rs.nilI ?_
  refine call_cls_of G K hA C (us := []) rfl (by rw [hp]; rfl) (fun x => by rw [hp]; kernel_rfl) (fun x y hy => ?_) fun x h' t M => ?_
  · rw [hp] at hy ⊢
    exact List.all_eq_true.mp (show (nWorld.all fun y => ((nWorld.zip [Value.ref x, Value.none]).reverse.lookup y).isSome) = true by kernel_rfl) y hy
  · rw [hp] at M
    obtain ⟨dx, L, es, n', rest, vs, kept, N, fl, le, lt, ltL, mk⟩ := M
    have M : ∀ {l : Addr} {o : Obj}, (l, o) ∈ rest → h'.get? l = some o ∧ s.heap.get? l = none := fun {l o} i => have z := N (l, o) (.tail _ (.tail _ i)); And.intro z.1 z.2.2
    refine mk.nameI (u := .none) (pre := []) fl (by kernel_rfl) fun vs fl mk => ?_
    refine mk.dctI fl fun l1 vs fl b1 i1 mk => ?_
    refine mk.dctI fl fun l2 vs fl b2 i2 mk => ?_
    refine mk.dctI fl fun l3 vs fl b3 i3 mk => ?_
    refine mk.dctI fl fun l4 vs fl b4 i4 mk => ?_
    refine mk.lstI fl fun l5 vs fl b5 i5 mk => ?_
    refine mk.dctI fl fun l6 vs fl b6 i6 mk => ?_
    refine mk.dctI fl fun l7 vs fl b7 i7 mk => ?_
    refine mk.nilI fl fun fl => ?_
    have big : @LE.le Nat _ 83 L := Nat.le_of_lt (Nat.lt_of_lt_of_le C.big (Nat.le_trans le (Nat.le_of_lt (Nat.lt_trans lt ltL))))
    have h1 : @LE.le Nat _ 83 l1 := Nat.le_trans big (Nat.le_of_succ_le b1)
    have h2 : @LT.lt Nat _ l1 l2 := b2
    have h3 : @LT.lt Nat _ l1 l3 := Nat.lt_trans h2 b3
    have h4 : @LT.lt Nat _ l1 l4 := Nat.lt_trans h3 b4
    have h5 : @LT.lt Nat _ l1 l5 := Nat.lt_trans h4 b5
    have h6 : @LT.lt Nat _ l1 l6 := Nat.lt_trans h5 b6
    have h7 : @LT.lt Nat _ l1 l7 := Nat.lt_trans h6 b7
    have hx1 : @LT.lt Nat _ x l1 := Nat.lt_of_lt_of_le ltL (Nat.le_of_succ_le b1)
    obtain ⟨C', T⟩ := C.take kept (M i1).2 h1 (M i1).1 (od := .dct []) (.dct (dictH_empty (M i1).1) .nil)
    have off : ∀ {a : Addr}, s.heap.get? a = none → a ≠ l1 → a ∉ l1 :: X := fun e hne q => (List.mem_cons.mp q).elim hne (C.new e)
    have vd : ∀ {a : Addr}, (a, eDct) ∈ rest → @LT.lt Nat _ l1 a → VR w h' (l1 :: X) (μ ++ [l1]) (.dct []) (.ref a) := fun i z => .dct (kvs := []) (dict_empty (M i).1) (off (M i).2 (Nat.ne_of_gt z)) (beq_eq_false_iff_ne.mpr fun e => absurd (e ▸ Nat.le_trans h1 (Nat.le_of_lt z) : @LE.le Nat _ 83 sysModules) (by decide)) .nil
    have nx := N _ (.tail _ (.head _))
    have nd := N _ (.head _)
    refine ⟨l1 :: X, μ ++ [l1], h', t, rfl, T, fun a ha => List.mem_cons_of_mem _ ha, C', .inst nx.1 nd.1 (off nx.2.2 (Nat.ne_of_lt hx1)) (off nd.2.2 (Nat.ne_of_lt (Nat.lt_trans lt hx1))) (vrf_of fl ?_)⟩
    exact .cons .none (.cons (.loc (at_end C.own.length _)) (.cons (vd i2 h2) (.cons (vd i3 h3) (.cons (vd i4 h4) (.cons (.lst (vs := #[]) ⟨0, (M i5).1⟩ (off (M i5).2 (Nat.ne_of_gt h5)) .nil) (.cons (vd i6 h6) (.cons (vd i7 h7) .nil)))))))
end

noncomputable def rowAV (k : Nat) (ts : List AV) : AV := .tup [.str (Str.ofString "V" ++ strOfInt k), sv "tuple", .lst ((List.range ts.length).zip ts |>.map fun p => .tup [.str (strOfInt p.1), p.2])]
noncomputable def rowsAV (vs : List (List AV)) : AV := .lst ((List.range vs.length).zip vs |>.map fun p => rowAV p.1 p.2)
noncomputable def worldAV (a b : AV) : AV := worldOf (.dct [(Str.ofString "A", a), (Str.ofString "B", b),
    (Str.ofString "W", adtAV (sv "W") (.tup [sv "T"]) (rowsAV [[enc .param]]) false), (Str.ofString "O", adtAV (sv "O") (.tup [sv "T"]) (rowsAV [[], [enc .param]]) true)])

noncomputable def eqP (as : List AV) (r : AV) (ds : List AV) (own : Own) : Option (AV × Own) := if AV.sames as ds then some (r, own) else none
noncomputable def tyP (rest : List AV) (f : Ty → AV) (ds : List AV) (own : Own) : Option (AV × Own) := (unc? ds).bind fun q => (ty? q.1).bind fun t => if AV.sames rest q.2 then some (f t, own) else none
noncomputable def call1 : AV → List AV → Own → Option (AV × Own) := pAt 67 (tyP [.clo (.dct [])] .ty) (pAt 62 (tyP [.dct []] .ty) (pAt 74 (tyP [.int 300] fun _ => .bool false) (pAt 36 (eqP [sv "u8"] (.int 0)) (pAt 43 (eqP [sv "u8"] (.int 255))
  (pAt 98 (eqP [.int 0, .int 255, .lst []] (.lst [.tup [sv "range", .int 0, .int 255]])) call0)))))
noncomputable def pr1 : Prims := ⟨call1, fresh0⟩
noncomputable def unitCall (P : Prims) (k a : Nat) (args : List AV) : Option (AV × Own) := (run P k).call (.val (.ref a)) args []
theorem f_least : unitCall pr0 40 36 [sv "u8"] = some (.int 0, []) := by kernel_rfl
theorem f_greatest : unitCall pr0 40 43 [sv "u8"] = some (.int 255, []) := by kernel_rfl
theorem f_ranges : unitCall pr0 40 98 [.int 0, .int 255, .lst []] = some (.lst [.tup [sv "range", .int 0, .int 255]], []) := by kernel_rfl

section
variable {w : World} {base : Heap} {mg mb : Str → Option Value} {X μ : List Addr} {own own' : Own} {A : Around} {s : Shared} {n m : Nat}

theorem Core.bare {h : Heap} (C : Core w base X μ own h) : Core w base X [] [] h := ⟨C.stays, C.baseX, C.tabX, C.tab, .nil, fun a ha => (nomatch ha), List.nodup_cons.mpr ⟨List.not_mem_nil, List.nodup_nil⟩⟩

theorem call_frame {f : AV → List AV → Own → Option (AV × Own)} (hC : SC w base n f) {g : AV} {ds : List AV} {d : AV} {v : Value} {us : List Value} (h : f g ds [] = some (d, [])) (hg : closed 0 g = true) (hds : closeds 0 ds = true) (hA : Room A n)
    (C : Core w base X μ own s.heap) (r : VR w s.heap X μ g v) (rs : VRs w s.heap X μ ds us) : wpAny (model P0 w) A (call v us []) (AftC w base X μ s own d) noE s := by
  have r0 : VR w s.heap X [] g v := r.closed (fun _ e => e) (fun i hi => absurd hi (Nat.not_lt_zero i)) hg
  have rs0 : VRs w s.heap X [] ds us := rs.closed (fun _ e => e) (fun i hi => absurd hi (Nat.not_lt_zero i)) hds
  refine wpAny_mono (hC.ok h hA C.bare r0 rs0) (fun v s' q => q.casesOn fun h' tk e T C' rv => ?_) fun _ _ e => e
  have ap := (List.nodup_cons.mp C.apart).1
  have kp : ∀ a o, s.heap.get? a = some o → a ≠ 83 → h'.get? a = some o := fun a o e hn => T.keep a o e fun q => hn (List.mem_singleton.mp q)
  have hk : ∀ a o, s.heap.get? a = some o → a ∉ X → a ∉ X ∧ h'.get? a = some o := fun a o e hn => ⟨hn, kp a o e fun q => hn (q ▸ C.tabX)⟩
  exact ⟨h', tk, e, ⟨fun a o e hn => kp a o e fun q => hn (q ▸ .head _), T.live, fun a ha => .inl ha, [], (List.append_nil _).symm, fun a ha => (nomatch ha)⟩,
    ⟨C'.stays, C'.baseX, C'.tabX, C'.tab, C.own.mono hk ⟨[], (List.append_nil _).symm⟩ fun a ha o e => kp a o e fun q => ap (q ▸ ha), C.subμ, C.apart⟩, rv.mono (fun a o e hn => ⟨hn, e⟩) ⟨μ, rfl⟩⟩

theorem AftC.turn {d e : AV} {v : Value} {s' : Shared} (h : AftC w base X μ s own d v s') (hde : ∀ h', VR w h' X μ d v → VR w h' X μ e v) : AftC w base X μ s own e v s' := h.casesOn fun h' tk e1 T C r => ⟨h', tk, e1, T, C, hde h' r⟩

theorem closed_enc (t : Ty) : closed 0 (enc t) = true := List.all_eq_true.mp (show (allT.all fun t => closed 0 (enc t)) = true by decide +kernel) t (mem_allT t)

theorem ex_ok {f : AV → List AV → Own → Option (AV × Own)} {a : Addr} {as : List AV} {r : AV} (hC : SC w base n f) (hf : f (.val (.ref a)) as [] = some (r, [])) (hc : closeds 0 as = true) {ds : List AV} {d : AV} {us : List Value} (h : eqP as r ds own = some (d, own')) (hA : Room A n)
    (C : Core w base X μ own s.heap) (rs : VRs w s.heap X μ ds us) : wpAny (model P0 w) A (call (.ref a) us []) (AftC w base X μ s own' d) noE s :=
  ite_then h fun hs h => sp h (call_frame hC hf rfl hc hA C (.val _) (AV.sames_eq hs ▸ rs))
theorem ty_ok {f : AV → List AV → Own → Option (AV × Own)} {a : Addr} {rest : List AV} {g g' : Ty → AV} (hC : SC w base n f) (hf : ∀ t, f (.val (.ref a)) (enc t :: rest) [] = some (g' t, [])) (hc : closeds 0 rest = true)
    (turn : ∀ t h' v, VR w h' X μ (g' t) v → VR w h' X μ (g t) v) {ds : List AV} {d : AV} {us : List Value} (h : tyP rest g ds own = some (d, own')) (hA : Room A n)
    (C : Core w base X μ own s.heap) (rs : VRs w s.heap X μ ds us) : wpAny (model P0 w) A (call (.ref a) us []) (AftC w base X μ s own' d) noE s :=
  bind_any h fun q h1 h => bind_any h fun t h2 h => ite_then h fun hs h => sp h <| by
    rw [unc?_is h1, ty?_is h2, ← AV.sames_eq hs] at rs
    refine rs.consI fun u vs r rs => ?_
    exact wpAny_mono (call_frame hC (hf t) rfl (Bool.and_eq_true_iff.mpr ⟨closed_enc t, hc⟩) hA C (.val _) (.cons r.tyI rs)) (fun v s' q => q.turn fun h' r => turn t h' v r) fun _ _ e => e
end

noncomputable def waysT (wa wb : List (List Ty)) : Ty → List (List Ty)
  | .base .never => []
  | .base .bool => [[], []]
  | .base .u8 => [[]]
  | .base .unit => [[]]
  | .base .A => wa
  | .base .B => wb
  | .box b => [[.base b]]
  | .ref b => [[.base b]]
  | .pair b c => [[.base b, .base c]]
  | .arr _ .n0 => [[]]
  | .arr b _ => [[.base b]]
  | .wrap b => [[.base b]]
  | .opt b => [[], [.base b]]
  | .param => [[]]
noncomputable def tyL (ws : List (List Ty)) : AV := .lst (ws.map fun w => .lst (w.map .ty))
noncomputable def encL (ws : List (List Ty)) : AV := .lst (ws.map fun w => .lst (w.map enc))
noncomputable def isAB : Ty → Bool
  | .base .A => true
  | .base .B => true
  | _ => false
noncomputable def rowsT (ws : List (List Ty)) : AV := rowsAV (ws.map fun w => w.map .ty)
noncomputable def shapeOk (e : Bool) (ws : List (List Ty)) : Prop := (if e then ws.length ≤ 2 else ws.length = 1) ∧ ∀ v ∈ ws, v.length ≤ 2

theorem ways_other (a b : AV) : ((allT.filter fun t => !isAB t).map fun t => unitCall pr1 40 113 [enc t, worldAV a b]) = (allT.filter fun t => !isAB t).map fun t => some (encL (waysT [] [] t), []) := by kernel_rfl

theorem upto2 {α : Type} {P : List α → Prop} (h0 : P []) (h1 : ∀ a, P [a]) (h2 : ∀ a b, P [a, b]) (l : List α) (h : l.length ≤ 2) : P l := by
  cases l with
  | nil => exact h0
  | cons a l => cases l with
    | nil => exact h1 a
    | cons b l => cases l with
      | nil => exact h2 a b
      | cons c l => exact absurd (Nat.le_of_succ_le_succ (Nat.le_of_succ_le_succ h)) (Nat.not_succ_le_zero _)
theorem shapes {P : List (List Ty) → Prop} (h0 : P []) (h1 : P [[]]) (h2 : ∀ a, P [[a]]) (h3 : ∀ a b, P [[a, b]]) (g0 : P [[], []]) (g1 : ∀ a, P [[], [a]]) (g2 : ∀ a b, P [[], [a, b]])
    (k0 : ∀ a, P [[a], []]) (k1 : ∀ a b, P [[a], [b]]) (k2 : ∀ a b c, P [[a], [b, c]]) (m0 : ∀ a b, P [[a, b], []]) (m1 : ∀ a b c, P [[a, b], [c]]) (m2 : ∀ a b c d, P [[a, b], [c, d]]) (ws : List (List Ty)) (hl : ws.length ≤ 2) (hv : ∀ v ∈ ws, v.length ≤ 2) : P ws :=
  upto2 (P := fun ws => (∀ v ∈ ws, v.length ≤ 2) → P ws) (fun _ => h0) (fun v hv => upto2 (P := fun v => P [v]) h1 h2 h3 v (hv v (.head _)))
    (fun v u hv => upto2 (P := fun v => P [v, u]) (upto2 (P := fun u => P [[], u]) g0 g1 g2 u (hv u (.tail _ (.head _)))) (fun a => upto2 (P := fun u => P [[a], u]) (k0 a) (k1 a) (k2 a) u (hv u (.tail _ (.head _)))) (fun a b => upto2 (P := fun u => P [[a, b], u]) (m0 a b) (m1 a b) (m2 a b) u (hv u (.tail _ (.head _)))) v (hv v (.head _))) ws hl hv
theorem shape1 {P : List (List Ty) → Prop} (h1 : P [[]]) (h2 : ∀ a, P [[a]]) (h3 : ∀ a b, P [[a, b]]) (ws : List (List Ty)) (hl : ws.length = 1) (hv : ∀ v ∈ ws, v.length ≤ 2) : P ws := by
  cases ws with
  | nil => exact absurd hl (by decide)
  | cons v ws => cases ws with
    | nil => exact upto2 (P := fun v => P [v]) h1 h2 h3 v (hv v (.head _))
    | cons u ws => exact absurd (Nat.succ.inj hl) (Nat.succ_ne_zero _)

theorem ways_A (b nm : AV) : ∀ ws : List (List Ty), ws.length ≤ 2 → (∀ v ∈ ws, v.length ≤ 2) → unitCall pr1 40 113 [enc (.base .A), worldAV (adtAV nm (.tup []) (rowsT ws) true) b] = some (tyL ws, []) :=
  shapes (by kernel_rfl) (by kernel_rfl) (fun a => by kernel_rfl) (fun a c => by kernel_rfl) (by kernel_rfl) (fun a => by kernel_rfl) (fun a c => by kernel_rfl) (fun a => by kernel_rfl) (fun a c => by kernel_rfl) (fun a c d => by kernel_rfl) (fun a c => by kernel_rfl) (fun a c d => by kernel_rfl) (fun a c d e => by kernel_rfl)
theorem ways_B (a nm : AV) : ∀ ws : List (List Ty), ws.length ≤ 2 → (∀ v ∈ ws, v.length ≤ 2) → unitCall pr1 40 113 [enc (.base .B), worldAV a (adtAV nm (.tup []) (rowsT ws) true)] = some (tyL ws, []) :=
  shapes (by kernel_rfl) (by kernel_rfl) (fun a => by kernel_rfl) (fun a c => by kernel_rfl) (by kernel_rfl) (fun a => by kernel_rfl) (fun a c => by kernel_rfl) (fun a => by kernel_rfl) (fun a c => by kernel_rfl) (fun a c d => by kernel_rfl) (fun a c => by kernel_rfl) (fun a c d => by kernel_rfl) (fun a c d e => by kernel_rfl)
theorem ways_As (b nm : AV) : ∀ ws : List (List Ty), ws.length = 1 → (∀ v ∈ ws, v.length ≤ 2) → unitCall pr1 40 113 [enc (.base .A), worldAV (adtAV nm (.tup []) (rowsT ws) false) b] = some (tyL ws, []) := shape1 (by kernel_rfl) (fun t => by kernel_rfl) (fun t u => by kernel_rfl)
theorem ways_Bs (a nm : AV) : ∀ ws : List (List Ty), ws.length = 1 → (∀ v ∈ ws, v.length ≤ 2) → unitCall pr1 40 113 [enc (.base .B), worldAV a (adtAV nm (.tup []) (rowsT ws) false)] = some (tyL ws, []) := shape1 (by kernel_rfl) (fun t => by kernel_rfl) (fun t u => by kernel_rfl)

noncomputable def empB (a b : Bool) : Bs → Bool
  | .never => true
  | .A => a
  | .B => b
  | _ => false
noncomputable def empT (a b : Bool) : Ty → Bool
  | .base x => empB a b x
  | .box x => empB a b x
  | .ref x => empB a b x
  | .pair x y => empB a b x || empB a b y
  | .arr _ .n0 => false
  | .arr x _ => empB a b x
  | .wrap x => empB a b x
  | .opt _ => false
  | .param => false
noncomputable def nmL (l : List Bool) : AV := .lst (l.map fun b => sv (if b then "A" else "B"))
noncomputable def nmLs : List (List Bool) := [[], [true], [false], [true, false], [true, true, false], [false, true, false], [true, false, true, false]]
noncomputable def toldAV (eA eB : Bool) (a b : AV) : AV := .dct [(Str.ofString "A", .tup [.bool eA, a]), (Str.ofString "B", .tup [.bool eB, b])]

theorem f_with_ : (allT.map fun t => unitCall pr0 40 67 [enc t, .clo (.dct [])]) = allT.map fun t => some (enc t, []) := by kernel_rfl
theorem f_subst_ : (allT.map fun t => unitCall pr0 40 62 [enc t, .dct []]) = allT.map fun t => some (enc t, []) := by kernel_rfl
theorem f_more_ : (allT.map fun t => unitCall pr0 40 74 [enc t, .int 300]) = allT.map fun t => some (.bool false, []) := by kernel_rfl
theorem f_with (t : Ty) : unitCall pr0 40 67 [enc t, .clo (.dct [])] = some (enc t, []) := List.map_inj_left.mp f_with_ t (mem_allT t)
theorem f_subst (t : Ty) : unitCall pr0 40 62 [enc t, .dct []] = some (enc t, []) := List.map_inj_left.mp f_subst_ t (mem_allT t)
theorem f_more (t : Ty) : unitCall pr0 40 74 [enc t, .int 300] = some (.bool false, []) := List.map_inj_left.mp f_more_ t (mem_allT t)
theorem f_adt_A (e : Bool) : ∀ ws : List (List Ty), ws.length ≤ 2 → (∀ v ∈ ws, v.length ≤ 2) → unitCall pr0 40 208 [sv "A", .tup [], tyL ws, .bool e] = some (adtAV (sv "A") (.tup []) (rowsT ws) e, []) :=
  shapes (by kernel_rfl) (by kernel_rfl) (fun a => by kernel_rfl) (fun a c => by kernel_rfl) (by kernel_rfl) (fun a => by kernel_rfl) (fun a c => by kernel_rfl) (fun a => by kernel_rfl) (fun a c => by kernel_rfl) (fun a c d => by kernel_rfl) (fun a c => by kernel_rfl) (fun a c d => by kernel_rfl) (fun a c d e => by kernel_rfl)
theorem f_adt_B (e : Bool) : ∀ ws : List (List Ty), ws.length ≤ 2 → (∀ v ∈ ws, v.length ≤ 2) → unitCall pr0 40 208 [sv "B", .tup [], tyL ws, .bool e] = some (adtAV (sv "B") (.tup []) (rowsT ws) e, []) :=
  shapes (by kernel_rfl) (by kernel_rfl) (fun a => by kernel_rfl) (fun a c => by kernel_rfl) (by kernel_rfl) (fun a => by kernel_rfl) (fun a c => by kernel_rfl) (fun a => by kernel_rfl) (fun a c => by kernel_rfl) (fun a c d => by kernel_rfl) (fun a c => by kernel_rfl) (fun a c d => by kernel_rfl) (fun a c d e => by kernel_rfl)
theorem f_adt_W : unitCall pr0 40 208 [sv "W", .tup [sv "T"], encL [[.param]], .bool false] = some (adtAV (sv "W") (.tup [sv "T"]) (rowsAV [[enc .param]]) false, []) := by kernel_rfl
theorem f_adt_O : unitCall pr0 40 208 [sv "O", .tup [sv "T"], encL [[], [.param]], .bool true] = some (adtAV (sv "O") (.tup [sv "T"]) (rowsAV [[], [enc .param]]) true, []) := by kernel_rfl

section
variable {w : World} {base : Heap} {mg mb : Str → Option Value}

theorem cal1 {w : World} : CalS w call1 := .at (keep_prim (by decide)) (.at (keep_prim (by decide)) (.at (keep_prim (by decide)) (.at (keep_prim (by decide)) (.at (keep_prim (by decide)) (.at (keep_prim (by decide)) cal0)))))
theorem sc1 (G : Gd w base mg mb) : SC w base 41 call1 :=
  have S : SC w base 41 (run pr0 40).call := (sound_run (P := pr0) G (sc0 G) cal0 (sf0 G) calF0 40).call
  .at (.at (.at (.at (.at (.at ((sc0 G).up (by decide)) (ex_ok S f_ranges rfl)) (ex_ok S f_greatest rfl)) (ex_ok S f_least rfl)) (ty_ok S f_more rfl fun _ _ _ r => r)) (ty_ok S f_subst rfl fun _ _ _ => .ty)) (ty_ok S f_with rfl fun _ _ _ => .ty)
end

structure Good (d : AV) : Prop where
  closed : closed 0 d = true
  same : AV.same d d = true
structure Goods (l : List AV) : Prop where
  closed : closeds 0 l = true
  same : AV.sames l l = true
theorem goods_all {l : List AV} (h : ∀ d ∈ l, Good d) : Goods l := by
  induction l with
  | nil => exact ⟨rfl, rfl⟩
  | cons d l ih =>
    have a := h d (.head _)
    have b := ih fun e he => h e (.tail _ he)
    exact ⟨Bool.and_eq_true_iff.mpr ⟨a.closed, b.closed⟩, Bool.and_eq_true_iff.mpr ⟨a.same, b.same⟩⟩
theorem good_map {α : Type} {l : List α} {f : α → AV} (h : ∀ a ∈ l, Good (f a)) : Goods (l.map f) := goods_all fun d hd => (List.mem_map.mp hd).elim fun a e => e.2 ▸ h a e.1
theorem good_lst {l : List AV} (h : Goods l) : Good (.lst l) := ⟨h.closed, h.same⟩
theorem good_tup {l : List AV} (h : Goods l) : Good (.tup l) := ⟨h.closed, h.same⟩
theorem good_nil : Goods [] := ⟨rfl, rfl⟩
theorem good_cons {d : AV} {l : List AV} (a : Good d) (b : Goods l) : Goods (d :: l) := ⟨Bool.and_eq_true_iff.mpr ⟨a.closed, b.closed⟩, Bool.and_eq_true_iff.mpr ⟨a.same, b.same⟩⟩
theorem good_str (x : Str) : Good (.str x) := ⟨rfl, beq_self_eq_true x⟩
theorem good_int (i : Int) : Good (.int i) := ⟨rfl, beq_self_eq_true i⟩
theorem good_bool (b : Bool) : Good (.bool b) := ⟨rfl, beq_self_eq_true b⟩
theorem good_ty (t : Ty) : Good (.ty t) := ⟨rfl, decide_eq_true rfl⟩
theorem good_tyL (ws : List (List Ty)) : Good (tyL ws) := good_lst (good_map fun w _ => good_lst (good_map fun t _ => good_ty t))
theorem good_zip {α : Type} {n : List Nat} {l : List α} {f : Nat × α → AV} (h : ∀ k, ∀ a ∈ l, Good (f (k, a))) : Goods ((n.zip l).map f) := good_map fun p hp => h p.1 p.2 (List.of_mem_zip hp).2
theorem good_row {k : Nat} {ts : List AV} (h : ∀ d ∈ ts, Good d) : Good (rowAV k ts) := good_tup (good_cons (good_str _) (good_cons (good_str _) (good_cons (good_lst (good_zip fun k a ha => good_tup (good_cons (good_str _) (good_cons (h a ha) good_nil)))) good_nil)))
theorem good_rowsT (ws : List (List Ty)) : Good (rowsT ws) := good_lst (good_zip fun k a ha => good_row fun d hd => by
  obtain ⟨w, -, e⟩ := List.mem_map.mp ha
  obtain ⟨t, -, e'⟩ := List.mem_map.mp (e ▸ hd : d ∈ w.map AV.ty)
  exact e' ▸ good_ty t)

structure Decl where
  eA : Bool
  wA : List (List Ty)
  eB : Bool
  wB : List (List Ty)
structure Decl.Ok (D : Decl) : Prop where
  a : shapeOk D.eA D.wA
  b : shapeOk D.eB D.wB
noncomputable def Decl.world (D : Decl) : AV := worldAV (adtAV (sv "A") (.tup []) (rowsT D.wA) D.eA) (adtAV (sv "B") (.tup []) (rowsT D.wB) D.eB)
noncomputable def Decl.told (D : Decl) : AV := toldAV D.eA D.eB (tyL D.wA) (tyL D.wB)
noncomputable def Decl.ways (D : Decl) : Ty → List (List Ty) := waysT D.wA D.wB

theorem ways_ab {t : Ty} (h : isAB t = true) : t = .base .A ∨ t = .base .B := by
  have q := List.all_eq_true.mp (show (allT.all fun t => !isAB t || (decide (t = .base .A) || decide (t = .base .B))) = true by decide +kernel) t (mem_allT t)
  rw [h] at q
  exact (Bool.or_eq_true_iff.mp (show (decide (t = .base .A) || decide (t = .base .B)) = true from q)).imp of_decide_eq_true of_decide_eq_true
theorem ways_out (a b : List (List Ty)) {t : Ty} (h : isAB t = false) : waysT [] [] t = waysT a b t := by
  cases t with
  | base b => cases b <;> first | rfl | exact ff h.symm
  | arr b n => cases n <;> rfl
  | _ => rfl
theorem ways_at (D : Decl) (h : D.Ok) (t : Ty) : unitCall pr1 40 113 [enc t, D.world] = some (if isAB t then tyL (D.ways t) else encL (D.ways t), []) := by
  cases hab : isAB t with
  | false => exact (List.map_inj_left.mp (ways_other _ _) t (List.mem_filter.mpr ⟨mem_allT t, by rw [hab]; rfl⟩)).trans (ways_out D.wA D.wB hab ▸ rfl)
  | true =>
    rcases ways_ab hab with q | q
    · rw [q]
      show unitCall pr1 40 113 [enc (.base .A), worldAV (adtAV (sv "A") (.tup []) (rowsT D.wA) D.eA) _] = some (tyL D.wA, [])
      have ⟨h1, h2⟩ := h.a
      cases he : D.eA with
      | true => rw [he] at h1; exact ways_A _ _ D.wA h1 h2
      | false => rw [he] at h1; exact ways_As _ _ D.wA h1 h2
    · rw [q]
      show unitCall pr1 40 113 [enc (.base .B), worldAV _ (adtAV (sv "B") (.tup []) (rowsT D.wB) D.eB)] = some (tyL D.wB, [])
      have ⟨h1, h2⟩ := h.b
      cases he : D.eB with
      | true => rw [he] at h1; exact ways_B _ _ D.wB h1 h2
      | false => rw [he] at h1; exact ways_Bs _ _ D.wB h1 h2

section
variable {w : World} {h : Heap} {X μ : List Addr}
theorem vr_tys {us : List Value} {ts : List Ty} (r : VRs w h X μ (ts.map enc) us) : VRs w h X μ (ts.map .ty) us := by
  induction ts generalizing us with
  | nil => exact r
  | cons t ts ih => exact r.consI fun _ _ a r => .cons (.ty a) (ih r)
theorem vr_encs {us : List Value} {ts : List Ty} (r : VRs w h X μ (ts.map .ty) us) : VRs w h X μ (ts.map enc) us := by
  induction ts generalizing us with
  | nil => exact r
  | cons t ts ih => exact r.consI fun _ _ a r => .cons a.tyI (ih r)
theorem vr_rows {us : List Value} {ws : List (List Ty)} (r : VRs w h X μ (ws.map fun v => AV.lst (v.map enc)) us) : VRs w h X μ (ws.map fun v => AV.lst (v.map .ty)) us := by
  induction ws generalizing us with
  | nil => exact r
  | cons v ws ih => exact r.consI fun _ _ a r => .cons (a.lstI fun _ _ a b c => .lst a b (vr_tys c)) (ih r)
theorem vr_tyL {v : Value} {ws : List (List Ty)} (r : VR w h X μ (encL ws) v) : VR w h X μ (tyL ws) v := VR.lstI r fun _ _ a b c => .lst a b (vr_rows c)
end

theorem shapeOk.le {e : Bool} {ws : List (List Ty)} (h : shapeOk e ws) : ws.length ≤ 2 := by
  have := h.1
  cases e
  · exact Nat.le_trans (Nat.le_of_eq (this : ws.length = 1)) (by decide)
  · exact this
theorem good_adt {x : String} {rows : AV} {e : Bool} (h : Good rows) : Good (adtAV (sv x) (.tup []) rows e) :=
  ⟨by rw [show closed 0 (adtAV (sv x) (.tup []) rows e) = (closed 0 rows && true) by kernel_rfl, h.closed]; rfl,
   by rw [show AV.same (adtAV (sv x) (.tup []) rows e) (adtAV (sv x) (.tup []) rows e) = ((Str.ofString x == Str.ofString x) && (AV.same rows rows && ((e == e) && true))) by kernel_rfl, h.same, beq_self_eq_true, beq_self_eq_true]; rfl⟩
theorem Decl.good (D : Decl) : Good D.world := by
  have a := good_adt (x := "A") (e := D.eA) (good_rowsT D.wA)
  have b := good_adt (x := "B") (e := D.eB) (good_rowsT D.wB)
  exact ⟨by rw [show closed 0 D.world = ((closed 0 (adtAV (sv "A") (.tup []) (rowsT D.wA) D.eA) && (closed 0 (adtAV (sv "B") (.tup []) (rowsT D.wB) D.eB) && true)) && true) by kernel_rfl, a.closed, b.closed]; rfl,
   by rw [show AV.same D.world D.world = ((AV.same (adtAV (sv "A") (.tup []) (rowsT D.wA) D.eA) (adtAV (sv "A") (.tup []) (rowsT D.wA) D.eA) && (AV.same (adtAV (sv "B") (.tup []) (rowsT D.wB) D.eB) (adtAV (sv "B") (.tup []) (rowsT D.wB) D.eB) && true)) && true) by kernel_rfl, a.same, b.same]; rfl⟩

noncomputable def call2 (D : Decl) : AV → List AV → Own → Option (AV × Own) := pAt 113 (tyP [D.world] fun t => tyL (D.ways t)) call1
noncomputable def pr2 (D : Decl) : Prims := ⟨call2 D, fresh0⟩

section
variable {w : World} {base : Heap} {mg mb : Str → Option Value}
theorem cal2 {w : World} (D : Decl) : CalS w (call2 D) := .at (keep_prim (by decide)) cal1
theorem sc2 (G : Gd w base mg mb) (D : Decl) (hD : D.Ok) : SC w base 81 (call2 D) :=
  have h1 := sc1 G
  have S : SC w base 81 (run pr1 40).call := (sound_run (P := pr1) G h1 cal1 ((sf0 G).up (by decide)) calF0 40).call
  .at (h1.up (by decide)) (ty_ok S (ways_at D hD) (Bool.and_eq_true_iff.mpr ⟨D.good.closed, rfl⟩) fun t h' v r => by
    cases q : isAB t with
    | true => rw [q] at r; exact r
    | false => rw [q] at r; exact vr_tyL r)
end
noncomputable def hvF : Fn := (fnAt 118).getD ⟨[], default, []⟩
noncomputable def hvS (i : Nat) : Stmt := (hvF.body[i]?).getD default
structure SV where
  t : Expr
  v : Expr
  b : List Stmt
  p : Pos
noncomputable def p0 : Pos := ⟨0, 0, 0, 0⟩
noncomputable def sV : Stmt → SV
  | .While t b _ p => ⟨t, default, b, p⟩
  | .If t b _ p => ⟨t, default, b, p⟩
  | .For x i b _ p => ⟨x, i, b, p⟩
  | .Assign ts v p => ⟨(ts[0]?).getD default, v, [], p⟩
  | .Return e p => ⟨e.getD default, default, [], p⟩
  | _ => ⟨default, default, [], p0⟩
structure EV where
  l : Expr
  r : Expr
  es : List Expr
  p : Pos
  k : Nat
  g : List Comprehension
  s : Scope
noncomputable def eV : Expr → EV
  | .Compare l _ rs p => ⟨l, (rs[0]?).getD default, [], p, 0, [], default⟩
  | .BoolOp _ es p => ⟨default, default, es, p, 0, [], default⟩
  | .Subscript o i p => ⟨o, i, [], p, 0, [], default⟩
  | .ListComp e gs s p => ⟨e, default, [], p, 0, gs, s⟩
  | .Name _ p => ⟨default, default, [], p, 0, [], default⟩
  | .Tuple es k p => ⟨default, default, es, p, k, [], default⟩
  | .BinOp l _ r p => ⟨l, r, [], p, 0, [], default⟩
  | .Call f es _ p => ⟨f, default, es, p, 0, [], default⟩
  | _ => ⟨default, default, [], p0, 0, [], default⟩
noncomputable def whT (s : Stmt) : Expr := (sV s).t
noncomputable def whB (s : Stmt) : List Stmt := (sV s).b
noncomputable def whP (s : Stmt) : Pos := (sV s).p
noncomputable def ifT (s : Stmt) : Expr := (sV s).t
noncomputable def ifB (s : Stmt) : List Stmt := (sV s).b
noncomputable def ifP (s : Stmt) : Pos := (sV s).p
noncomputable def foI (s : Stmt) : Expr := (sV s).v
noncomputable def foB (s : Stmt) : List Stmt := (sV s).b
noncomputable def foP (s : Stmt) : Pos := (sV s).p
noncomputable def foQ (s : Stmt) : Pos := (eV (sV s).t).p
noncomputable def asV (s : Stmt) : Expr := (sV s).v
noncomputable def asT (s : Stmt) : Expr := (sV s).t
noncomputable def asP (s : Stmt) : Pos := (sV s).p
noncomputable def reE (s : Stmt) : Expr := (sV s).t
noncomputable def reP (s : Stmt) : Pos := (sV s).p
noncomputable def cmpL (e : Expr) : Expr := (eV e).l
noncomputable def cmpR (e : Expr) : Expr := (eV e).r
noncomputable def exP (e : Expr) : Pos := (eV e).p
noncomputable def boA (e : Expr) (i : Nat) : Expr := ((eV e).es[i]?).getD default
noncomputable def suO (e : Expr) : Expr := (eV e).l
noncomputable def suI (e : Expr) : Expr := (eV e).r
noncomputable def suP (e : Expr) : Pos := (eV e).p
noncomputable def lcE (e : Expr) : Expr := (eV e).l
noncomputable def lcG (e : Expr) : Comprehension := ((eV e).g[0]?).getD ⟨default, default, [], 0⟩
noncomputable def lcS (e : Expr) : Scope := (eV e).s
noncomputable def lcP (e : Expr) : Pos := (eV e).p
noncomputable def lcC (e : Expr) : Expr := ((lcG e).ifs[0]?).getD default
noncomputable def naP (e : Expr) : Pos := (eV e).p
noncomputable def tuX (e : Expr) (i : Nat) : Expr := ((eV e).es[i]?).getD default
noncomputable def tuK (e : Expr) : Nat := (eV e).k
noncomputable def tuP (e : Expr) : Pos := (eV e).p
noncomputable def biL (e : Expr) : Expr := (eV e).l
noncomputable def biR (e : Expr) : Expr := (eV e).r
noncomputable def biP (e : Expr) : Pos := (eV e).p
noncomputable def caA (e : Expr) (i : Nat) : Expr := ((eV e).es[i]?).getD default
noncomputable def caF (e : Expr) : Expr := (eV e).l
noncomputable def nm (x : String) : Str := Str.ofString x
noncomputable def vs0 (T W : AV) : Vars := [(nm "t", T), (nm "world", W)]
noncomputable def vs1 (T W : AV) : Vars := vs0 T W ++ [(nm "left", .loc 1), (nm "rows", .loc 0)]
section
variable (D : Decl) (T : Ty) (a b : AV)
noncomputable abbrev RR (D : Decl) (k : Nat) : Rec := run (pr2 D) k
theorem hv_s0 : stepS (RR D 30) hvF.sc (vs0 (.ty T) (worldAV a b)) [] (hvS 0) = some (.next, vs1 (.ty T) (worldAV a b), [.dct [], .lst [.ty T]]) := by kernel_rfl
end
section
variable (D : Decl) (T : Ty) (W : AV)
noncomputable def hvB (i : Nat) : Stmt := ((whB (hvS 1))[i]?).getD default
theorem hv_t1 (own : Own) : (RR D 30).t hvF.sc (vs1 (.ty T) W) own (whT (hvS 1)) = (evCmp own .NotEq (.loc 1) (.lst [])).map fun c => (c, own) := by
  have : (RR D 30).t hvF.sc (vs1 (.ty T) W) own (whT (hvS 1)) = (((evCmp own .NotEq (.loc 1) (.lst [])).map fun c => (AV.bool c, own)).bind fun r => (bl? r.1).map fun b => (b, r.2)) := by kernel_rfl
  rw [this]
  cases evCmp own .NotEq (.loc 1) (.lst []) <;> rfl
end

theorem if_eq {R : Rec} {sc : Scope} {vs : Vars} {own : Own} {st : Stmt} {t : Expr} {b o : List Stmt} {p : Pos} (h : st = .If t b o p) : stepS R sc vs own st = (R.t sc vs own t).bind fun c => if c.1 then R.ss sc vs c.2 b else R.ss sc vs c.2 o := h ▸ rfl
theorem while_eq {R : Rec} {sc : Scope} {vs : Vars} {own : Own} {st : Stmt} {t : Expr} {b : List Stmt} {p : Pos} (h : st = .While t b [] p) (hn : (vs.any fun v => isClo v.2) = false) :
    stepS R sc vs own st = whileGo (fun vs own => R.t sc vs own t) (fun vs own => R.ss sc vs own b) turns vs own := by
  rw [h]
  exact if_pos (show (true && !vs.any fun v => isClo v.2) = true by rw [hn]; rfl)
theorem for_eq {R : Rec} {sc : Scope} {vs : Vars} {own : Own} {st : Stmt} {x : Str} {p p' : Pos} {it : Expr} {b : List Stmt} (h : st = .For (.Name x p) it b [] p') (hk : (kindV sc x && (vs.all fun v => !isClo v.2) && !isSet it) = true) :
    stepS R sc vs own st = (R.src sc vs own it).bind fun d => forGo x (fun vs own => R.ss sc vs own b) d.1 vs d.2 := by
  rw [h]
  exact if_pos hk
theorem ss_cons {R : Rec} {sc : Scope} {vs : Vars} {own : Own} {st : Stmt} {r : List Stmt} : stepSs R sc vs own (st :: r) = (stepS R sc vs own st).bind fun
    | (.next, vs, own) => stepSs R sc vs own r
    | (.ret d, vs, own) => some (.ret d, vs, own) := rfl


section
variable (D : Decl) (T : Ty) (W : AV)
noncomputable def hvI : Stmt := hvB 1
noncomputable def hvI0 : Stmt := ((ifB hvI)[0]?).getD default
noncomputable def hvI1 : Stmt := ((ifB hvI)[1]?).getD default
noncomputable def hvI2 : Stmt := ((ifB hvI)[2]?).getD default
theorem hvI_is : hvI = .If (ifT hvI) (ifB hvI) [] (ifP hvI) := by kernel_rfl
theorem hvI_b : ifB hvI = [hvI0, hvI1, hvI2] := by kernel_rfl
theorem hvW_b : whB (hvS 1) = [hvB 0, hvI] := by kernel_rfl
theorem hvW_is : hvS 1 = .While (whT (hvS 1)) (whB (hvS 1)) [] (whP (hvS 1)) := by kernel_rfl
theorem hvI0_is : hvI0 = .If (ifT hvI0) (ifB hvI0) [] (ifP hvI0) := by kernel_rfl
theorem hvI2_is : hvI2 = .For (.Name (nm "parts") (foQ hvI2)) (foI hvI2) (foB hvI2) [] (foP hvI2) := by kernel_rfl
noncomputable abbrev V1 (T : Ty) (W : AV) : Vars := vs1 (.ty T) W
noncomputable abbrev V1h (T : Ty) (W d : AV) : Vars := V1 T W ++ [(nm "here", d)]
noncomputable abbrev V1p (T : Ty) (W d e : AV) : Vars := V1 T W ++ [(nm "here", d), (nm "parts", e)]
theorem hv_b0 (own : Own) : stepS (RR D 29) hvF.sc (V1 T W) own (hvB 0) =
    ((if recvOk own (.loc 1) then evMethod own (.loc 1) (nm "pop") [] else none).map fun d => (Fl.next, V1h T W d.1, d.2)) := by
  have : stepS (RR D 29) hvF.sc (V1 T W) own (hvB 0) = (((if recvOk own (.loc 1) then evMethod own (.loc 1) (nm "pop") [] else none).map fun d => (V1h T W d.1, d.2)).map fun r => (Fl.next, r.1, r.2)) := by kernel_rfl
  rw [this, Option.map_map]; rfl
theorem hv_it (d : AV) (own : Own) : (RR D 29).t hvF.sc (V1h T W d) own (ifT hvI) = (evCmp own .NotIn d (.loc 0)).map fun c => (c, own) := by
  have : (RR D 29).t hvF.sc (V1h T W d) own (ifT hvI) = (((evCmp own .NotIn d (.loc 0)).map fun c => (AV.bool c, own)).bind fun r => (bl? r.1).map fun b => (b, r.2)) := by kernel_rfl
  rw [this]
  cases evCmp own .NotIn d (.loc 0) <;> rfl
end

section
variable {R : Rec} {sc : Scope} {vs : Vars} {own o1 o2 o3 : Own}
theorem T_or {e a b : Expr} {p : Pos} {c : Bool} (h : e = .BoolOp .Or [a, b] p) (ha : R.t sc vs own a = some (false, o1)) (hb : R.t sc vs o1 b = some (c, o2)) : stepT R sc vs own e = some (c, o2) := by
  rw [h]
  show (R.t sc vs own a).bind _ = _
  rw [ha]
  show (R.t sc vs o1 b).bind _ = _
  rw [hb]
  cases c <;> rfl
theorem T_and {e a b : Expr} {p : Pos} {c d : Bool} (h : e = .BoolOp .And [a, b] p) (ha : R.t sc vs own a = some (c, o1)) (hb : c = true → R.t sc vs o1 b = some (d, o2)) : stepT R sc vs own e = if c then some (d, o2) else some (false, o1) := by
  rw [h]
  show (R.t sc vs own a).bind _ = _
  rw [ha]
  cases c
  · rfl
  · show (R.t sc vs o1 b).bind _ = _
    rw [hb rfl]
    cases d <;> rfl
theorem E_cmp {e l r : Expr} {op : CmpOp} {p : Pos} {a b : AV} {c : Bool} (h : e = .Compare l [op] [r] p) (hm : behindInMarks op r = false) (hl : R.e sc vs own l = some (a, o1)) (hr : R.e sc vs o1 r = some (b, o2)) (hc : evCmp o2 op a b = some c) : stepE R sc vs own e = some (.bool c, o2) := by
  rw [h]
  refine (if_neg (hm ▸ Bool.false_ne_true)).trans ?_
  rw [hl, Option.bind_some, hr, Option.bind_some, hc]; rfl
theorem T_cmp {e l r : Expr} {op : CmpOp} {p : Pos} {a b : AV} {c : Bool} (h : e = .Compare l [op] [r] p) (hm : behindInMarks op r = false) (hl : R.e sc vs own l = some (a, o1)) (hr : R.e sc vs o1 r = some (b, o2)) (hc : evCmp o2 op a b = some c) : stepT R sc vs own e = some (c, o2) := by
  rw [h]
  show (stepE R sc vs own (.Compare l [op] [r] p)).bind _ = _
  rw [E_cmp rfl hm hl hr hc]; rfl
theorem S_if {st : Stmt} {t : Expr} {b o : List Stmt} {p : Pos} {c : Bool} (h : st = .If t b o p) (ht : R.t sc vs own t = some (c, o1)) : stepS R sc vs own st = if c then R.ss sc vs o1 b else R.ss sc vs o1 o := by
  rw [if_eq h, ht]; rfl
theorem SS_next {st : Stmt} {r : List Stmt} {vs' : Vars} (h : stepS R sc vs own st = some (.next, vs', o1)) : stepSs R sc vs own (st :: r) = stepSs R sc vs' o1 r := by rw [ss_cons, h]; rfl
theorem SS_ret {st : Stmt} {r : List Stmt} {vs' : Vars} {d : AV} (h : stepS R sc vs own st = some (.ret d, vs', o1)) : stepSs R sc vs own (st :: r) = some (.ret d, vs', o1) := by rw [ss_cons, h]; rfl
end


section
variable (D : Decl) (T : Ty) (W : AV)
noncomputable def hvC : Expr := boA (ifT hvI0) 0
theorem hv_o : ifT hvI0 = .BoolOp .Or [boA (ifT hvI0) 0, boA (ifT hvI0) 1] (exP (ifT hvI0)) := by kernel_rfl
theorem hv_c : hvC = .Compare (cmpL hvC) [.Eq] [cmpR hvC] (exP hvC) := by kernel_rfl
theorem hv_len (t : Ty) (kvs : List (Ty × AV)) (L : List AV) : (RR D 26).e hvF.sc (V1h T W (.ty t)) [.dct kvs, .lst L] (cmpL hvC) = if kvs.length ≤ 100000 then some (.int kvs.length, [.dct kvs, .lst L]) else none := by kernel_rfl
theorem hv_more (t : Ty) (own : Own) : (RR D 27).t hvF.sc (V1h T W (.ty t)) own (boA (ifT hvI0) 1) = some (false, own) := by kernel_rfl
theorem hv_i0t (t : Ty) (kvs : List (Ty × AV)) (L : List AV) (hk : kvs.length < 300) : (RR D 28).t hvF.sc (V1h T W (.ty t)) [.dct kvs, .lst L] (ifT hvI0) = some (false, [.dct kvs, .lst L]) := by
  refine T_or hv_o (o1 := [.dct kvs, .lst L]) ?_ (hv_more D T W t _)
  refine T_cmp hv_c (by kernel_rfl) (a := .int kvs.length) (b := .int 300) (o1 := [.dct kvs, .lst L]) ?_ (by kernel_rfl) ?_
  · rw [hv_len, if_pos (Nat.le_trans (Nat.le_of_lt hk) (by decide))]
  · show some ((kvs.length : Int) == 300) = _
    rw [show ((kvs.length : Int) == 300) = false from beq_eq_false_iff_ne.mpr fun q => Nat.ne_of_lt hk (Int.ofNat.inj q)]
end

section
variable {R : Rec} {sc : Scope} {vs vs' : Vars} {own o1 o2 o3 : Own}
theorem S_asub {st : Stmt} {o i v : Expr} {p q : Pos} {d : AV} (h : st = .Assign [.Subscript o i p] v q) (hc : isComp v = false) (hv : R.e sc vs own v = some (d, o1)) (hp : R.put sc vs o1 (.Subscript o i p) d = some (vs', o2)) : stepS R sc vs own st = some (.next, vs', o2) := by
  rw [h]
  show ((if isComp v = true then none else (R.e sc vs own v).bind fun d => R.put sc vs d.2 (.Subscript o i p) d.1).map fun r => (Fl.next, r.1, r.2)) = _
  rw [hc, if_neg Bool.false_ne_true, hv, Option.bind_some, hp]; rfl
theorem S_for {st : Stmt} {x : Str} {p p' : Pos} {it : Expr} {b : List Stmt} {ds : List AV} (h : st = .For (.Name x p) it b [] p') (hk : (kindV sc x && (vs.all fun v => !isClo v.2) && !isSet it) = true) (hs : R.src sc vs own it = some (ds, o1)) :
    stepS R sc vs own st = forGo x (fun vs own => R.ss sc vs own b) ds vs o1 := by rw [for_eq h hk, hs]; rfl
theorem lst_meth {i : Nat} {xs : List AV} {n : Str} {as : List AV} (h : own[i]? = some (.lst xs)) : evMethod own (.loc i) n as = (match one? as with
    | some d => evLst own i xs n d
    | none => if as.isEmpty && n == Str.ofString "pop" then evPop own i xs else none) := by
  show (own[i]?).bind _ = _
  rw [h]; rfl
theorem ext_ok {i : Nat} {xs ys : List AV} (h : own[i]? = some (.lst xs)) (hl : xs.length + ys.length ≤ 100000) : evMethod own (.loc i) (nm "extend") [.lst ys] = some (.none, own.set i (.lst (xs ++ ys))) :=
  (lst_meth h).trans (if_pos hl)
theorem pop_ok {i : Nat} {xs : List AV} {x : AV} (h : own[i]? = some (.lst (xs ++ [x]))) (hl : xs.length < 100000) : evMethod own (.loc i) (nm "pop") [] = some (x, own.set i (.lst xs)) := by
  refine (lst_meth h).trans ?_
  refine (if_pos (show (xs ++ [x]).length ≤ 100000 by rw [List.length_append]; exact hl)).trans ?_
  rw [List.getLast?_concat, List.dropLast_concat]; rfl
theorem store_ty {j : Nat} {kvs : List (Ty × AV)} {t : Ty} {k d : AV} (h : own[j]? = some (.dct kvs)) (hk : decT k = some t) (hs : st? k = none) (hl : kvs.length ≤ 100000) : evStore own j k d = some (own.set j (.dct (if hasKey kvs t then kvs.map fun kv => if kv.1 = t then (t, d) else kv else kvs ++ [(t, d)]))) := by
  show (own[j]?).bind _ = _
  rw [h, Option.bind_some]
  show ((match (if kvs.isEmpty then st? k else none) with
    | some x => some (OD.sdct [(x, d)])
    | none => (decT k).bind fun t => if kvs.length ≤ 100000 then some (OD.dct (if hasKey kvs t then kvs.map fun (kv : Ty × AV) => if kv.1 = t then (t, d) else kv else kvs ++ [(t, d)])) else none).map fun o' => setAt own j o') = _
  rw [hs, ite_self, hk, Option.bind_some, if_pos hl]; rfl
end

noncomputable def WOk (D : Decl) (W : AV) : Prop := AV.same D.world W = true
theorem call_prim {P : Prims} {R : Rec} {f d : AV} {args : List AV} {own own' : Own} (h : P.call f args own = some (d, own')) : stepCall P R f args own = some (d, own') := by
  show (match P.call f args own with
    | some r => some r
    | none => own? R f args own) = _
  rw [h]
theorem call_ways {D : Decl} {W : AV} (h : WOk D W) (t : Ty) (own : Own) (k : Nat) : (RR D (k + 1)).call (.val (.ref 113)) [.ty t, W] own = some (tyL (D.ways t), own) :=
  call_prim <| by
    show (match (if (AV.same D.world W && true) = true then some (tyL (D.ways t), own) else none) with
      | some r => some r
      | none => _) = _
    rw [show AV.same D.world W = true from h]; rfl

section
variable (D : Decl) (T : Ty) (W : AV)
theorem hvI1_is : hvI1 = .Assign [.Subscript (suO (asT hvI1)) (suI (asT hvI1)) (suP (asT hvI1))] (asV hvI1) (asP hvI1) := by kernel_rfl
theorem hv_i1v (t : Ty) (own : Own) : (RR D 28).e hvF.sc (V1h T W (.ty t)) own (asV hvI1) = (RR D 27).call (.val (.ref 113)) [.ty t, W] own := by kernel_rfl
theorem hv_i1p (t : Ty) (own : Own) (d : AV) : (RR D 28).put hvF.sc (V1h T W (.ty t)) own (.Subscript (suO (asT hvI1)) (suI (asT hvI1)) (suP (asT hvI1))) d = (evStore own 0 (.ty t) d).map fun own => (V1h T W (.ty t), own) := by kernel_rfl
theorem hv_i1 (hW : WOk D W) (t : Ty) (kvs : List (Ty × AV)) (L : List AV) (hk : kvs.length < 300) (hn : hasKey kvs t = false) :
    stepS (RR D 28) hvF.sc (V1h T W (.ty t)) [.dct kvs, .lst L] hvI1 = some (.next, V1h T W (.ty t), [.dct (kvs ++ [(t, tyL (D.ways t))]), .lst L]) := by
  refine S_asub hvI1_is (by kernel_rfl) (d := tyL (D.ways t)) (o1 := [.dct kvs, .lst L]) ?_ ?_
  · rw [hv_i1v]; exact call_ways hW t _ 26
  · rw [hv_i1p, store_ty (kvs := kvs) (t := t) rfl rfl rfl (Nat.le_trans (Nat.le_of_lt hk) (by decide)), hn]
    rfl
theorem hv_i2s (d : AV) (own : Own) : (RR D 28).src hvF.sc (V1h T W d) own (foI hvI2) = ((evGet own (.loc 0) d).map fun x => (x, own)).bind fun r => (seq? r.1).map fun xs => (xs, r.2) := by kernel_rfl
theorem hv_i2b (d e : AV) (own : Own) : (RR D 28).ss hvF.sc (setV (nm "parts") e (V1h T W d)) own (foB hvI2) = (if recvOk own (.loc 1) then evMethod own (.loc 1) (nm "extend") [e] else none).map fun r => (Fl.next, V1p T W d e, r.2) := by
  have : (RR D 28).ss hvF.sc (setV (nm "parts") e (V1h T W d)) own (foB hvI2) = ((if recvOk own (.loc 1) then evMethod own (.loc 1) (nm "extend") [e] else none).map fun r => (Fl.next, V1p T W d e, r.2)).bind fun
    | (.next, vs, own) => some (.next, vs, own)
    | (.ret d, vs, own) => some (.ret d, vs, own) := by kernel_rfl
  rw [this]
  cases (if recvOk own (.loc 1) then evMethod own (.loc 1) (nm "extend") [e] else none) <;> rfl
theorem forGo_next {x : Str} {body : Vars → Own → Option (Fl × Vars × Own)} {d : AV} {ds : List AV} {vs vs' : Vars} {own own' : Own} (h : body (setV x d vs) own = some (.next, vs', own')) (hc : (vs'.all fun v => !isClo v.2) = true) : forGo x body (d :: ds) vs own = forGo x body ds (vs'.take vs.length) own' := by
  show (body (setV x d vs) own).bind _ = _
  rw [h]
  exact if_pos hc
theorem no_clo {W : AV} (hc : isClo W = false) : (!isClo W && true) = true := by rw [hc]; rfl
theorem hv_i2g (hc : isClo W = false) (t : Ty) (K : List (Ty × AV)) (ws : List (List Ty)) : ∀ (L : List AV), L.length + ws.flatten.length ≤ 100000 →
    forGo (nm "parts") (fun vs own => (RR D 28).ss hvF.sc vs own (foB hvI2)) (ws.map fun ps => .lst (ps.map .ty)) (V1h T W (.ty t)) [.dct K, .lst L] = some (.next, V1h T W (.ty t), [.dct K, .lst (L ++ ws.flatten.map .ty)]) := by
  induction ws with
  | nil => intro L _; rw [show (([] : List (List Ty)).flatten.map AV.ty) = [] from rfl, List.append_nil]; rfl
  | cons ps ws ih =>
    intro L h
    rw [List.flatten_cons, List.length_append, ← Nat.add_assoc] at h
    refine (forGo_next (vs' := V1p T W (.ty t) (.lst (ps.map .ty))) (own' := [.dct K, .lst (L ++ ps.map .ty)]) ?_ (no_clo hc)).trans ((ih _ ?_).trans ?_)
    · rw [hv_i2b, show recvOk [.dct K, .lst L] (.loc 1) = true from rfl, if_pos rfl, ext_ok (own := [.dct K, .lst L]) rfl (by rw [List.length_map]; exact Nat.le_trans (Nat.le_add_right _ _) h)]; rfl
    · rw [List.length_append, List.length_map]; exact h
    · rw [List.flatten_cons, List.map_append, List.append_assoc]
theorem lookup_end {α : Type} {l : List (Ty × α)} {t : Ty} {d : α} (h : l.any (fun kv => kv.1 == t) = false) : (l ++ [(t, d)]).lookup t = some d := by
  induction l with
  | nil => exact List.lookup_cons_self
  | cons e r ih =>
    have ⟨h1, h2⟩ := Bool.or_eq_false_iff.mp (show (e.1 == t || r.any fun kv => kv.1 == t) = false from h)
    have e1 : (t == e.1) = false := beq_eq_false_iff_ne.mpr fun q => beq_eq_false_iff_ne.mp h1 q.symm
    rw [List.cons_append, List.lookup_cons, e1]
    exact ih h2
theorem hv_body1 (hc : isClo W = false) (hW : WOk D W) (t : Ty) (kvs : List (Ty × AV)) (L : List AV) (hk : kvs.length < 300) (hn : hasKey kvs t = false) (hl : L.length + (D.ways t).flatten.length ≤ 100000) :
    (RR D 29).ss hvF.sc (V1h T W (.ty t)) [.dct kvs, .lst L] (ifB hvI) = some (.next, V1h T W (.ty t), [.dct (kvs ++ [(t, tyL (D.ways t))]), .lst (L ++ (D.ways t).flatten.map .ty)]) := by
  rw [hvI_b]
  show stepSs (RR D 28) _ _ _ _ = _
  rw [SS_next (S_if hvI0_is (c := false) (hv_i0t D T W t kvs L hk)), SS_next (hv_i1 D T W hW t kvs L hk hn)]
  have hs : (RR D 28).src hvF.sc (V1h T W (.ty t)) [.dct (kvs ++ [(t, tyL (D.ways t))]), .lst L] (foI hvI2) = some ((D.ways t).map fun ps => .lst (ps.map .ty), [.dct (kvs ++ [(t, tyL (D.ways t))]), .lst L]) := by
    rw [hv_i2s]
    have : evGet [.dct (kvs ++ [(t, tyL (D.ways t))]), .lst L] (.loc 0) (.ty t) = some (tyL (D.ways t)) := by
      show (kvs ++ [(t, tyL (D.ways t))]).lookup t = _
      exact lookup_end hn
    rw [this]; rfl
  have hf : stepS (RR D 28) hvF.sc (V1h T W (.ty t)) [.dct (kvs ++ [(t, tyL (D.ways t))]), .lst L] hvI2 = some (.next, V1h T W (.ty t), [.dct (kvs ++ [(t, tyL (D.ways t))]), .lst (L ++ (D.ways t).flatten.map .ty)]) := by
    rw [S_for hvI2_is ?_ hs]
    · exact hv_i2g D T W hc t _ _ _ hl
    · rw [show (V1h T W (.ty t)).all (fun v => !isClo v.2) = true from no_clo hc]; kernel_rfl
  rw [SS_next hf]; rfl
end

theorem plain_e (t : Ty) : AV.plain 11 (enc t) = true ∧ AV.plain 10 (enc t) = true ∧ AV.plain 12 (enc t) = true := and3 (List.all_eq_true.mp (show (allT.all fun t => AV.plain 11 (enc t) && (AV.plain 10 (enc t) && AV.plain 12 (enc t))) = true by decide +kernel) t (mem_allT t)) fun a b c => ⟨a, b, c⟩
theorem norms_ty (ts : List Ty) : AV.norms (ts.map .ty) = ts.map enc := by
  induction ts with
  | nil => rfl
  | cons t ts ih => exact congrArg (enc t :: ·) ih
theorem plains_map {α : Type} {n : Nat} {f : α → AV} (h : ∀ a, AV.plain n (f a) = true) (l : List α) : AV.plains n (l.map f) = true := by
  induction l with
  | nil => rfl
  | cons a l ih => exact Bool.and_eq_true_iff.mpr ⟨h a, ih⟩
theorem plains_enc (ts : List Ty) : AV.plains 11 (ts.map enc) = true ∧ AV.plains 10 (ts.map enc) = true := ⟨plains_map (fun t => (plain_e t).1) ts, plains_map (fun t => (plain_e t).2.1) ts⟩
theorem beq_nil {l : List AV} : AV.beq (.lst l) (.lst []) = l.isEmpty := by cases l <;> rfl
theorem cmp_nil {own : Own} {a : AV} {l : List AV} (hd : (deref own a).norm = .lst l) (hp : AV.plain dep (.lst l) = true) : evCmp own .NotEq a (.lst []) = some (!l.isEmpty) ∧ evCmp own .Eq a (.lst []) = some l.isEmpty := by
  have e3 : (AV.plain dep (deref own a).norm && AV.plain dep (deref own (.lst [])).norm) = true := by rw [hd, hp]; rfl
  have e4 : AV.beq (deref own a).norm (deref own (.lst [])).norm = l.isEmpty := by rw [hd]; exact beq_nil
  exact ⟨(if_pos e3).trans (by rw [e4]), (if_pos e3).trans (by rw [e4])⟩
theorem map_isEmpty {α β : Type} {f : α → β} (l : List α) : (l.map f).isEmpty = l.isEmpty := by cases l <;> rfl
theorem deref_own {own : Own} {i : Nat} {xs : List AV} (h : own[i]? = some (.lst xs)) : deref own (.loc i) = .lst xs := by
  show (match (own[i]?).bind ol? with
    | some xs => AV.lst xs
    | none => .loc i) = _
  rw [h]; rfl
theorem norm_tys (ts : List Ty) : (AV.lst (ts.map .ty)).norm = .lst (ts.map enc) := congrArg AV.lst (norms_ty ts)
theorem ne_nil_own {own : Own} {i : Nat} {ts : List Ty} (h : own[i]? = some (.lst (ts.map .ty))) : evCmp own .NotEq (.loc i) (.lst []) = some (!ts.isEmpty) :=
  (cmp_nil (by rw [deref_own h, norm_tys]) (plains_enc ts).1).1.trans (by rw [map_isEmpty])

theorem nodup_le {α : Type} [BEq α] [LawfulBEq α] {l : List α} : ∀ {m : List α}, l.Nodup → (∀ a ∈ l, a ∈ m) → l.length ≤ m.length := by
  induction l with
  | nil => exact fun _ _ => Nat.zero_le _
  | cons a l ih =>
    intro m hn hs
    have hn := List.nodup_cons.mp hn
    have ha := hs a (.head _)
    have := ih (m := m.erase a) hn.2 fun b hb => (List.mem_erase_of_ne (fun q : b = a => hn.1 (q ▸ hb))).mpr (hs b (.tail _ hb))
    rw [List.length_erase_of_mem ha] at this
    exact Nat.succ_le_of_lt (Nat.lt_of_le_of_lt this (Nat.sub_lt (List.length_pos_of_mem ha) Nat.one_pos))
theorem allT_len : allT.length = 85 := by decide +kernel
theorem keys_le {α : Type} {kvs : List (Ty × α)} (h : (kvs.map (·.1)).Nodup) : kvs.length ≤ 85 := by
  have := nodup_le h fun a _ => mem_allT a
  rwa [List.length_map, allT_len] at this

theorem shape_small {e : Bool} {ws : List (List Ty)} (h : shapeOk e ws) : ws.flatten.length ≤ 4 := by
  refine upto2 (P := fun ws => (∀ v ∈ ws, v.length ≤ 2) → ws.flatten.length ≤ 4) (fun _ => by decide) (fun a h2 => ?_) (fun a b h2 => ?_) ws h.le h.2
  · rw [List.flatten_cons, List.length_append]; exact Nat.add_le_add (Nat.le_trans (h2 a (.head _)) (by decide : 2 ≤ 4)) (Nat.le_refl _)
  · rw [List.flatten_cons, List.flatten_cons, List.length_append, List.length_append]; exact Nat.add_le_add (h2 a (.head _)) (Nat.add_le_add (h2 b (.tail _ (.head _))) (Nat.le_refl 0))
theorem ways_small (D : Decl) (h : D.Ok) (t : Ty) : (D.ways t).flatten.length ≤ 4 := by
  cases hab : isAB t with
  | true => exact (ways_ab hab).elim (fun q => q ▸ shape_small h.a) fun q => q ▸ shape_small h.b
  | false =>
    rw [show D.ways t = waysT [] [] t from (ways_out D.wA D.wB hab).symm]
    exact of_decide_eq_true (List.all_eq_true.mp (show (allT.all fun t => decide ((waysT [] [] t).flatten.length ≤ 4)) = true by decide +kernel) t (mem_allT t))

theorem hasKey_iff {kvs : List (Ty × AV)} {t : Ty} : hasKey kvs t = true ↔ t ∈ kvs.map (·.1) :=
  List.any_eq_true.trans ⟨fun ⟨kv, h1, h2⟩ => List.mem_map.mpr ⟨kv, h1, beq_iff_eq.mp h2⟩, fun h => (List.mem_map.mp h).elim fun kv e => ⟨kv, e.1, beq_iff_eq.mpr e.2⟩⟩

theorem while_stop {t : Vars → Own → Option (Bool × Own)} {b : Vars → Own → Option (Fl × Vars × Own)} {n : Nat} {vs : Vars} {own own' : Own} (h : t vs own = some (false, own')) : whileGo t b (n + 1) vs own = some (.next, vs, own') := by
  show (t vs own).bind _ = _
  rw [h]; rfl
theorem while_next {t : Vars → Own → Option (Bool × Own)} {b : Vars → Own → Option (Fl × Vars × Own)} {n : Nat} {vs vs' : Vars} {own own' own'' : Own} (h : t vs own = some (true, own')) (hb : b vs own' = some (.next, vs', own'')) (hc : (vs'.all fun v => !isClo v.2) = true) : whileGo t b (n + 1) vs own = whileGo t b n (vs'.take vs.length) own'' := by
  show (t vs own).bind _ = _
  rw [h]
  show (b vs own').bind _ = _
  rw [hb]
  exact if_pos hc
theorem while_ret {t : Vars → Own → Option (Bool × Own)} {b : Vars → Own → Option (Fl × Vars × Own)} {n : Nat} {vs vs' : Vars} {own own' own'' : Own} {d : AV} (h : t vs own = some (true, own')) (hb : b vs own' = some (.ret d, vs', own'')) : whileGo t b (n + 1) vs own = some (.ret d, vs', own'') := by
  show (t vs own).bind _ = _
  rw [h]
  show (b vs own').bind _ = _
  rw [hb]; rfl
theorem not_nil {α : Type} (l : List α) (a : α) : (!(l ++ [a]).isEmpty) = true := by cases l <;> rfl
theorem mem_snoc {α : Type} {a b : α} {l : List α} {P : Prop} (h : a ∈ l ++ [b]) (k : a ∈ l → P) (e : a = b → P) : P := (List.mem_append.mp h).elim k fun q => e (List.mem_singleton.mp q)

structure Inv1 (D : Decl) (T : Ty) (kvs : List (Ty × AV)) (ts : List Ty) : Prop where
  nd : (kvs.map (·.1)).Nodup
  vals : ∀ kv ∈ kvs, kv.2 = tyL (D.ways kv.1)
  parts : ∀ kv ∈ kvs, ∀ ps ∈ D.ways kv.1, ∀ p ∈ ps, p ∈ kvs.map (·.1) ∨ p ∈ ts
  has : T ∈ kvs.map (·.1) ∨ T ∈ ts
  len : ts.length + 4 * (85 - kvs.length) ≤ 341

section
variable (D : Decl) (T : Ty) (W : AV)
noncomputable abbrev tst1 (D : Decl) : Vars → Own → Option (Bool × Own) := fun vs own => (RR D 30).t hvF.sc vs own (whT (hvS 1))
noncomputable abbrev bod1 (D : Decl) : Vars → Own → Option (Fl × Vars × Own) := fun vs own => (RR D 30).ss hvF.sc vs own (whB (hvS 1))

theorem nodup_end {α : Type} {l : List α} {a : α} (h : l.Nodup) (k : a ∉ l) : (l ++ [a]).Nodup := List.nodup_append.mpr ⟨h, List.nodup_cons.mpr ⟨List.not_mem_nil, List.nodup_nil⟩, fun b hb c hc q => k (List.mem_singleton.mp hc ▸ q ▸ hb)⟩
theorem len1 {α : Type} {l : List α} {a : α} : (l ++ [a]).length = l.length + 1 := List.length_append
theorem Inv1.old {D : Decl} {T t : Ty} {kvs : List (Ty × AV)} {ts : List Ty} (I : Inv1 D T kvs (ts ++ [t])) (h : t ∈ kvs.map (·.1)) : Inv1 D T kvs ts :=
  have f : ∀ p, p ∈ kvs.map (·.1) ∨ p ∈ ts ++ [t] → p ∈ kvs.map (·.1) ∨ p ∈ ts := fun p z => z.elim .inl fun q => mem_snoc q .inr fun e => .inl (e ▸ h)
  ⟨I.nd, I.vals, fun kv h1 ps h2 p h3 => f p (I.parts kv h1 ps h2 p h3), f T I.has, Nat.le_trans (Nat.add_le_add (by rw [len1]; exact Nat.le_succ _) (Nat.le_refl _)) I.len⟩
theorem drop4 {a l f : Nat} (h : l + 1 + 4 * (85 - a) ≤ 341) (ha : a + 1 ≤ 85) (hf : f ≤ 4) : l + f + 4 * (85 - (a + 1)) ≤ 341 ∧ l + f + 5 * (85 - (a + 1)) < l + 1 + 5 * (85 - a) := by
  have e : 85 - a = (85 - (a + 1)) + 1 := (Nat.succ_pred_eq_of_pos (Nat.sub_pos_of_lt ha)).symm
  have d : ∀ k, l + f + k = l + k + f := fun k => Nat.add_right_comm l f k
  have c : ∀ k, l + 1 + k = l + k + 1 := fun k => Nat.add_right_comm l 1 k
  rw [e, c] at h
  rw [e, c, d, d]
  exact ⟨Nat.le_trans (Nat.add_le_add_left (Nat.le_trans hf (by decide : 4 ≤ 5)) _) h, Nat.add_lt_add_left (Nat.lt_of_le_of_lt hf (by decide : 4 < 6)) _⟩
theorem Inv1.new {D : Decl} {T t : Ty} {kvs : List (Ty × AV)} {ts : List Ty} (I : Inv1 D T kvs (ts ++ [t])) (h : t ∉ kvs.map (·.1)) (hf : (D.ways t).flatten.length ≤ 4) : Inv1 D T (kvs ++ [(t, tyL (D.ways t))]) (ts ++ (D.ways t).flatten) ∧ (ts ++ (D.ways t).flatten).length + 5 * (85 - (kvs ++ [(t, tyL (D.ways t))]).length) < (ts ++ [t]).length + 5 * (85 - kvs.length) := by
  have e : (kvs ++ [(t, tyL (D.ways t))]).map (·.1) = kvs.map (·.1) ++ [t] := List.map_append
  have nd : ((kvs ++ [(t, tyL (D.ways t))]).map (·.1)).Nodup := e ▸ nodup_end I.nd h
  have ht : t ∈ kvs.map (·.1) ++ [t] := List.mem_append_right _ (.head _)
  have f : ∀ p, p ∈ kvs.map (·.1) ∨ p ∈ ts ++ [t] → p ∈ kvs.map (·.1) ++ [t] ∨ p ∈ ts ++ (D.ways t).flatten := fun p z => z.elim (fun q => .inl (List.mem_append_left _ q)) fun q => mem_snoc q (fun q => .inr (List.mem_append_left _ q)) fun e => .inl (e ▸ ht)
  have hl := I.len
  rw [len1] at hl
  obtain ⟨z1, z2⟩ := drop4 hl (len1 ▸ keys_le nd) hf
  refine ⟨⟨nd, fun kv h1 => mem_snoc h1 (I.vals kv) fun q => q ▸ rfl, fun kv h1 ps h2 p h3 => e ▸ mem_snoc h1 (fun q => f p (I.parts kv q ps h2 p h3)) fun q => .inr (List.mem_append_right _ (List.mem_flatten.mpr ⟨ps, (show D.ways kv.1 = D.ways t from congrArg (fun z : Ty × AV => D.ways z.1) q) ▸ h2, h3⟩)), e ▸ f T I.has, ?_⟩, ?_⟩
  · rw [List.length_append, len1]; exact z1
  · rw [List.length_append, len1, len1]; exact z2
theorem hv_turn1 (hc : isClo W = false) (hW : WOk D W) (hD : D.Ok) {kvs : List (Ty × AV)} {ts : List Ty} {t : Ty} (I : Inv1 D T kvs (ts ++ [t])) :
    ∃ kvs' ts', Inv1 D T kvs' ts' ∧ ts'.length + 5 * (85 - kvs'.length) < (ts ++ [t]).length + 5 * (85 - kvs.length) ∧ bod1 D (V1 T W) [.dct kvs, .lst ((ts ++ [t]).map .ty)] = some (.next, V1h T W (.ty t), [.dct kvs', .lst (ts'.map .ty)]) := by
  have hlen := I.len
  rw [len1] at hlen
  have hts : ts.length + 1 ≤ 341 := Nat.le_trans (Nat.le_add_right _ _) hlen
  have hpop : stepS (RR D 29) hvF.sc (V1 T W) [.dct kvs, .lst ((ts ++ [t]).map .ty)] (hvB 0) = some (.next, V1h T W (.ty t), [.dct kvs, .lst (ts.map .ty)]) := by
    rw [hv_b0, show recvOk [.dct kvs, .lst ((ts ++ [t]).map .ty)] (.loc 1) = true from rfl, if_pos rfl, List.map_append]
    rw [show [t].map AV.ty = [AV.ty t] from rfl, pop_ok (xs := ts.map .ty) (x := .ty t) rfl (by rw [List.length_map]; exact Nat.lt_of_lt_of_le hts (by decide))]
    rfl
  have hb : bod1 D (V1 T W) [.dct kvs, .lst ((ts ++ [t]).map .ty)] = stepSs (RR D 29) hvF.sc (V1h T W (.ty t)) [.dct kvs, .lst (ts.map .ty)] [hvI] := by
    show stepSs (RR D 29) _ _ _ (whB (hvS 1)) = _
    rw [hvW_b, SS_next hpop]
  have htest : (RR D 29).t hvF.sc (V1h T W (.ty t)) [.dct kvs, .lst (ts.map .ty)] (ifT hvI) = some (!hasKey kvs t, [.dct kvs, .lst (ts.map .ty)]) := by
    rw [hv_it]; rfl
  cases hk : hasKey kvs t with
  | true =>
    rw [hk] at htest
    refine ⟨kvs, ts, I.old (hasKey_iff.mp hk), Nat.add_lt_add_right (by rw [len1]; exact Nat.lt_succ_self _) _, ?_⟩
    exact hb.trans ((SS_next (vs' := V1h T W (.ty t)) (o1 := [.dct kvs, .lst (ts.map .ty)]) (by rw [S_if hvI_is htest]; rfl)).trans rfl)
  | false =>
    rw [hk] at htest
    have hsm := ways_small D hD t
    obtain ⟨I', hm⟩ := I.new (fun q => absurd (hk.symm.trans (hasKey_iff.mpr q)) Bool.false_ne_true) hsm
    refine ⟨_, _, I', hm, ?_⟩
    have hin : (RR D 29).ss hvF.sc (V1h T W (.ty t)) [.dct kvs, .lst (ts.map .ty)] (ifB hvI) = some (.next, V1h T W (.ty t), [.dct (kvs ++ [(t, tyL (D.ways t))]), .lst (ts.map .ty ++ (D.ways t).flatten.map .ty)]) :=
      hv_body1 D T W hc hW t kvs _ (Nat.lt_of_le_of_lt (keys_le I.nd) (by decide)) hk (by rw [List.length_map]; exact Nat.le_trans (Nat.add_le_add (Nat.le_of_lt hts) hsm) (by decide))
    exact hb.trans ((SS_next (vs' := V1h T W (.ty t)) (o1 := [.dct (kvs ++ [(t, tyL (D.ways t))]), .lst (ts.map .ty ++ (D.ways t).flatten.map .ty)]) (by rw [S_if hvI_is htest]; exact hin)).trans (by rw [List.map_append]; rfl))

theorem hv_loop1 (hc : isClo W = false) (hW : WOk D W) (hD : D.Ok) (n : Nat) : ∀ {kvs : List (Ty × AV)} {ts : List Ty}, Inv1 D T kvs ts → ts.length + 5 * (85 - kvs.length) < n →
    ∃ kvs', Inv1 D T kvs' [] ∧ whileGo (tst1 D) (bod1 D) n (V1 T W) [.dct kvs, .lst (ts.map .ty)] = some (.next, V1 T W, [.dct kvs', .lst []]) := by
  induction n with
  | zero => exact fun _ h => absurd h (Nat.not_lt_zero _)
  | succ n ih =>
    intro kvs ts I h
    have ht : tst1 D (V1 T W) [.dct kvs, .lst (ts.map .ty)] = some (!ts.isEmpty, [.dct kvs, .lst (ts.map .ty)]) := by
      show (RR D 30).t _ _ _ _ = _
      rw [hv_t1, ne_nil_own (i := 1) (ts := ts) rfl]; rfl
    rcases List.eq_nil_or_concat ts with q | ⟨ts₀, t, q⟩
    · rw [q] at ht I ⊢
      exact ⟨kvs, I, while_stop ht⟩
    · rw [q, List.concat_eq_append] at ht I h ⊢
      rw [not_nil] at ht
      obtain ⟨kvs', ts', I', hm, hb⟩ := hv_turn1 D T W hc hW hD I
      obtain ⟨kvs'', I'', hw⟩ := ih I' (Nat.lt_of_lt_of_le hm (Nat.le_of_lt_succ h))
      exact ⟨kvs'', I'', (while_next ht hb (no_clo hc)).trans hw⟩
end

section
variable {R : Rec} {sc : Scope} {vs vs' : Vars} {own o1 o2 o3 : Own}
noncomputable abbrev compOk (sc scope : Scope) (g : Comprehension) : Bool := g.is_async == 0 && !isSet g.iter && scope.kind == .function && (scope.names.all fun y => y.2 != .cell && (y.2 != .free || sc.names.lookup y.1 == some .cell || sc.names.lookup y.1 == some .free) && (y.2 != .local || scope.names.lookup y.1 == some .local))
noncomputable abbrev compVs (sc scope : Scope) (vs : Vars) : Vars := vs.filter fun v => scope.names.lookup v.1 == some .free && sc.names.lookup v.1 != some .local
theorem comp_is {elt : Expr} {g : Comprehension} {scope : Scope} {ds ys : List AV} {tst : Vars → Own → Option (Bool × Own)} (hc : compOk sc scope g = true) (hs : R.src sc vs own g.iter = some (ds, o1))
    (ht : (fun vs own => match g.ifs with
          | [] => some (true, own)
          | [c] => R.t (relabelS scope sc) vs own c
          | _ => none) = tst)
    (hgo : compGo tst (fun vs own => R.e (relabelS scope sc) vs own elt) (evTarget (relabelS scope sc) g.target) (compVs sc scope vs) ds o1 = some (ys, o2)) (hl : ys.length ≤ 1000) : R.comp sc vs own elt g scope = some (.lst ys, o2) := by
  rw [← ht] at hgo
  refine (if_pos hc).trans ?_
  rw [hs, Option.bind_some]
  refine (congrArg (Option.bind · _) hgo).trans (if_pos hl)
theorem comp_if {elt : Expr} {g : Comprehension} {scope : Scope} {ds ys : List AV} {c : Expr} (hc : compOk sc scope g = true) (hs : R.src sc vs own g.iter = some (ds, o1)) (hg : g.ifs = [c])
    (hgo : compGo (fun vs own => R.t (relabelS scope sc) vs own c) (fun vs own => R.e (relabelS scope sc) vs own elt) (evTarget (relabelS scope sc) g.target) (compVs sc scope vs) ds o1 = some (ys, o2)) (hl : ys.length ≤ 1000) : R.comp sc vs own elt g scope = some (.lst ys, o2) :=
  comp_is hc hs (by rw [hg]) hgo hl
theorem comp_all {elt : Expr} {g : Comprehension} {scope : Scope} {ds ys : List AV} (hc : compOk sc scope g = true) (hs : R.src sc vs own g.iter = some (ds, o1)) (hg : g.ifs = [])
    (hgo : compGo (fun _ own => some (true, own)) (fun vs own => R.e (relabelS scope sc) vs own elt) (evTarget (relabelS scope sc) g.target) (compVs sc scope vs) ds o1 = some (ys, o2)) (hl : ys.length ≤ 1000) : R.comp sc vs own elt g scope = some (.lst ys, o2) :=
  comp_is hc hs (by rw [hg]) hgo hl
theorem compGo_no {tst : Vars → Own → Option (Bool × Own)} {elt : Vars → Own → Option (AV × Own)} {bind : AV → Option Vars} {d : AV} {ds : List AV} {b : Vars} (h1 : bind d = some b) (h2 : tst (b ++ vs) own = some (false, o1)) : compGo tst elt bind vs (d :: ds) own = compGo tst elt bind vs ds o1 := by
  show (bind d).bind _ = _
  rw [h1]
  show (tst (b ++ vs) own).bind _ = _
  rw [h2]; rfl
theorem compGo_yes {tst : Vars → Own → Option (Bool × Own)} {elt : Vars → Own → Option (AV × Own)} {bind : AV → Option Vars} {d y : AV} {ds : List AV} {b : Vars} (h1 : bind d = some b) (h2 : tst (b ++ vs) own = some (true, o1)) (h3 : elt (b ++ vs) o1 = some (y, o2)) : compGo tst elt bind vs (d :: ds) own = (compGo tst elt bind vs ds o2).map fun r => (y :: r.1, r.2) := by
  show (bind d).bind _ = _
  rw [h1]
  show (tst (b ++ vs) own).bind _ = _
  rw [h2]
  show (elt (b ++ vs) o1).bind _ = _
  rw [h3]; rfl
theorem compGo_filter {tst : Vars → Own → Option (Bool × Own)} {elt : Vars → Own → Option (AV × Own)} {bind : AV → Option Vars} {x : Str} {f : AV → Bool} {ds : List AV} (h : ∀ d ∈ ds, bind d = some [(x, d)] ∧ tst ((x, d) :: vs) own = some (f d, own) ∧ elt ((x, d) :: vs) own = some (d, own)) :
    compGo tst elt bind vs ds own = some (ds.filter f, own) := by
  induction ds with
  | nil => rfl
  | cons d ds ih =>
    have ⟨h1, h2, h3⟩ := h d (.head _)
    have ih := ih fun e he => h e (.tail _ he)
    cases hf : f d with
    | false => rw [hf] at h2; rw [compGo_no h1 h2, ih, List.filter_cons_of_neg (hf ▸ Bool.false_ne_true)]
    | true => rw [hf] at h2; rw [compGo_yes h1 h2 h3, ih, List.filter_cons_of_pos hf]; rfl
theorem E_comp {e elt : Expr} {g : Comprehension} {scope : Scope} {p : Pos} {r : AV × Own} (h : e = .ListComp elt [g] scope p) (hc : R.comp sc vs own elt g scope = some r) : stepE R sc vs own e = some r := h ▸ hc
theorem S_comp {st : Stmt} {x : Str} {elt : Expr} {g : Comprehension} {scope : Scope} {p p' q : Pos} {d : AV} (h : st = .Assign [.Name x p] (.ListComp elt [g] scope p') q) (hk : (kindV sc x && putOk sc vs x) = true)
    (hw : (sc.names.lookup x == some .local && p.line == p'.line && !(scope.names.any fun (n, k) => n == x && (k == .local || k == .cell))) = true) (hc : R.comp sc vs own elt g scope = some (d, o1)) : stepS R sc vs own st = some (.next, setV x d vs, o1) := by
  rw [h]
  show ((if (kindV sc x && putOk sc vs x) = true then (if (sc.names.lookup x == some .local && p.line == p'.line && !(scope.names.any fun (n, k) => n == x && (k == .local || k == .cell))) = true then (R.comp sc vs own elt g scope).map fun d => (setV x d.1 vs, d.2) else none) else none).map fun r => (Fl.next, r.1, r.2)) = _
  rw [if_pos hk, if_pos hw, hc]; rfl
theorem E_rev {e v : Expr} {k : Nat} {p p1 p2 p3 : Pos} {xs : List AV} (h : e = .Subscript v (.Slice none none (some (.UnaryOp .USub (.Constant (.int 1) k p1) p2)) p3) p) (hv : R.e sc vs own v = some (.lst xs, o1)) (hl : xs.length ≤ 100000) : stepE R sc vs own e = some (.lst xs.reverse, o1) := by
  rw [h]
  show (R.e sc vs own v).bind _ = _
  rw [hv]
  exact if_pos hl
end


section
variable (D : Decl) (T : Ty) (W : AV)
noncomputable abbrev V2 (T : Ty) (W : AV) (b : Bool) : Vars := vs1 (.ty T) W ++ [(nm "known", .loc 2), (nm "is_more", .bool b)]
theorem hv_s2 (own : Own) (o1 o2 : OD) : stepS (RR D 30) hvF.sc (V1 T (.inst 166 [])) [o1, o2] (hvS 2) = some (.next, V2 T (.inst 166 []) true, [o1, o2, .dct []]) := by kernel_rfl
noncomputable def hvW2 (i : Nat) : Stmt := ((whB (hvS 3))[i]?).getD default
noncomputable def hvL : Stmt := hvW2 1
noncomputable def hvG (i : Nat) : Stmt := ((foB hvL)[i]?).getD default
theorem hvW2_is : hvS 3 = .While (whT (hvS 3)) (whB (hvS 3)) [] (whP (hvS 3)) := by kernel_rfl
theorem hvW2_b : whB (hvS 3) = [hvW2 0, hvL] := by kernel_rfl
theorem hvL_is : hvL = .For (.Name (nm "here") (foQ hvL)) (foI hvL) (foB hvL) [] (foP hvL) := by kernel_rfl
theorem hvL_b : foB hvL = [hvG 0, hvG 1] := by kernel_rfl
theorem hv_t3 (b : Bool) (own : Own) : (RR D 30).t hvF.sc (V2 T W b) own (whT (hvS 3)) = some (b, own) := by kernel_rfl
end

section
variable {R : Rec} {sc : Scope} {vs vs' vs'' : Vars} {own o1 o2 o3 : Own}
theorem S_pair {st : Stmt} {t1 t2 e1 e2 : Expr} {k k2 : Nat} {p p2 q : Pos} {a b : AV} (h : st = .Assign [.Tuple [t1, t2] k p] (.Tuple [e1, e2] k2 p2) q) (hn : (vs.any fun v => isClo v.2) = false) (hw : swp sc t1 t2 e1 e2 = some false) (hr : R.rhss sc vs own [e1, e2] = some ([a, b], o1))
    (h1 : R.put sc vs o1 t1 a = some (vs', o2)) (h2 : R.put sc vs' o2 t2 b = some (vs'', o3)) : stepS R sc vs own st = some (.next, vs'', o3) := by
  rw [h]
  have : stepPair R sc vs own t1 t2 e1 e2 = some (vs'', o3) := by
    refine (if_neg (hn ▸ Bool.false_ne_true)).trans ?_
    rw [hw, Option.bind_some]
    show (R.rhss sc vs own [e1, e2]).bind _ = _
    rw [hr]
    show (R.put sc vs o1 t1 a).bind _ = _
    rw [h1]
    exact h2
  show (stepPair R sc vs own t1 t2 e1 e2).map _ = _
  rw [this]; rfl
end
theorem eq_nil {own : Own} (ts : List Ty) : evCmp own .Eq (.lst (ts.map .ty)) (.lst []) = some ts.isEmpty := (cmp_nil (a := .lst (ts.map .ty)) (norm_tys ts) (plains_enc ts).1).2.trans (by rw [map_isEmpty])
theorem norms_tyL (ws : List (List Ty)) : AV.norms (ws.map fun w => .lst (w.map .ty)) = ws.map fun w => .lst (w.map enc) := by
  induction ws with
  | nil => rfl
  | cons w ws ih => rw [List.map_cons, List.map_cons, ← ih, ← norm_tys]; rfl
theorem tyL_norm (ws : List (List Ty)) : (tyL ws).norm = encL ws := congrArg AV.lst (norms_tyL ws)
theorem encL_plain (ws : List (List Ty)) : AV.plain dep (encL ws) = true := plains_map (n := 11) (f := fun w : List Ty => AV.lst (w.map enc)) (fun w => (plains_enc w).2) ws
theorem ne_nil_tyL {own : Own} (ws : List (List Ty)) : evCmp own .NotEq (tyL ws) (.lst []) = some (!ws.isEmpty) := (cmp_nil (a := tyL ws) (tyL_norm ws) (encL_plain ws)).1.trans (by rw [map_isEmpty])
theorem decT_enc (t : Ty) : decT (enc t) = some t := dec_enc t
theorem isClo_enc (t : Ty) : isClo (enc t) = false := (enc_tup t).elim fun xs e => e ▸ rfl
theorem not_str (t : Ty) : st? (enc t) = none := (enc_tup t).elim fun xs e => e ▸ rfl


section
variable (D : Decl) (T : Ty) (fs : List (Str × AV))
noncomputable abbrev V2h (T : Ty) (W : AV) (b : Bool) (d : AV) : Vars := V2 T W b ++ [(nm "here", d)]
noncomputable abbrev V2w (T : Ty) (W : AV) (b : Bool) (d e : AV) : Vars := V2 T W b ++ [(nm "here", d), (nm "ways", e)]
noncomputable def hvX : Expr := asV (hvG 0)
noncomputable def hvY : Expr := cmpL (lcC hvX)
noncomputable def hsc1 : Scope := relabelS (lcS hvX) hvF.sc
noncomputable def hsc2 : Scope := relabelS (lcS hvY) hsc1
noncomputable abbrev kV : Vars := [(nm "known", .loc 2)]
theorem hvG0_is : hvG 0 = .Assign [.Name (nm "ways") (naP (asT (hvG 0)))] (.ListComp (lcE hvX) [lcG hvX] (lcS hvX) (lcP hvX)) (asP (hvG 0)) := by kernel_rfl
theorem hvC_is : lcC hvX = .Compare hvY [.Eq] [cmpR (lcC hvX)] (exP (lcC hvX)) := by kernel_rfl
theorem hvY_is : hvY = .ListComp (lcE hvY) [lcG hvY] (lcS hvY) (lcP hvY) := by kernel_rfl
theorem hv_yt (x : AV) (own : Own) : (RR D 26).t hsc2 [(nm "one", x), (nm "known", .loc 2)] own (lcC hvY) = (evCmp own .NotIn x (.loc 2)).map fun c => (c, own) := by
  have : (RR D 26).t hsc2 [(nm "one", x), (nm "known", .loc 2)] own (lcC hvY) = (((evCmp own .NotIn x (.loc 2)).map fun c => (AV.bool c, own)).bind fun r => (bl? r.1).map fun b => (b, r.2)) := by kernel_rfl
  rw [this]
  cases evCmp own .NotIn x (.loc 2) <;> rfl
noncomputable abbrev fKey (K : List (Ty × AV)) : AV → Bool := fun x => (decT x).any fun p => !hasKey K p
theorem filter_ty (K : List (Ty × AV)) (ps : List Ty) : (ps.map AV.ty).filter (fKey K) = (ps.filter fun p => !hasKey K p).map .ty := List.filter_map
theorem hv_y (a b : OD) (K : List (Ty × AV)) (ps : List Ty) (hl : ps.length ≤ 1000) : (RR D 27).e hsc1 [(nm "parts", .lst (ps.map .ty)), (nm "known", .loc 2)] [a, b, .dct K] hvY = some (.lst ((ps.filter fun p => !hasKey K p).map .ty), [a, b, .dct K]) := by
  show stepE (RR D 26) hsc1 [(nm "parts", .lst (ps.map .ty)), (nm "known", .loc 2)] [a, b, .dct K] hvY = _
  refine E_comp hvY_is (comp_if (c := lcC hvY) (ds := ps.map .ty) (o1 := [a, b, .dct K]) (by kernel_rfl) ?_ (by kernel_rfl) ?_ ?_)
  · show (RR D 26).src hsc1 [(nm "parts", .lst (ps.map .ty)), (nm "known", .loc 2)] [a, b, .dct K] (lcG hvY).iter = _
    kernel_rfl
  · have hvs : compVs hsc1 (lcS hvY) [(nm "parts", .lst (ps.map .ty)), (nm "known", .loc 2)] = kV := by kernel_rfl
    rw [hvs, ← filter_ty]
    refine compGo_filter (x := nm "one") fun d hd => ⟨by kernel_rfl, ?_, by kernel_rfl⟩
    exact (List.mem_map.mp hd).elim fun p e => e.2 ▸ (hv_yt D (.ty p) [a, b, .dct K]).trans rfl
  · rw [List.length_map]; exact Nat.le_trans (List.length_filter_le _ _) hl
theorem hv_xt (a b : OD) (K : List (Ty × AV)) (ps : List Ty) (hl : ps.length ≤ 1000) : (RR D 28).t hsc1 [(nm "parts", .lst (ps.map .ty)), (nm "known", .loc 2)] [a, b, .dct K] (lcC hvX) = some ((ps.filter fun p => !hasKey K p).isEmpty, [a, b, .dct K]) :=
  T_cmp hvC_is (by kernel_rfl) (hv_y D a b K ps hl) (b := .lst []) (by kernel_rfl) (eq_nil _)
end

inductive Der (D : Decl) : Ty → Prop
  | mk {t : Ty} {ps : List Ty} : ps ∈ D.ways t → (∀ p ∈ ps, Der D p) → Der D t

noncomputable abbrev canMake (D : Decl) (K : List (Ty × AV)) (k : Ty) : Bool := (D.ways k).any fun ps => ps.all fun p => hasKey K p
noncomputable abbrev madeOf (D : Decl) (K : List (Ty × AV)) (k : Ty) : List (List Ty) := (D.ways k).filter fun ps => (ps.filter fun p => !hasKey K p).isEmpty
theorem filter_empty {α : Type} (f : α → Bool) (l : List α) : (l.filter f).isEmpty = l.all fun a => !f a := by
  induction l with
  | nil => rfl
  | cons a l ih =>
    cases h : f a with
    | true => rw [List.filter_cons_of_pos h, List.all_cons, h]; rfl
    | false => rw [List.filter_cons_of_neg (h ▸ Bool.false_ne_true), List.all_cons, h, ih]; rfl
theorem made_iff (D : Decl) (K : List (Ty × AV)) (k : Ty) : (!(madeOf D K k).isEmpty) = canMake D K k := by
  rw [filter_empty, List.not_all_eq_any_not]
  refine congrArg (D.ways k).any (funext fun ps => ?_)
  rw [Bool.not_not, filter_empty]
  exact congrArg ps.all (funext fun p => Bool.not_not _)

theorem len_flat {ps : List Ty} {ws : List (List Ty)} (h : ps ∈ ws) : ps.length ≤ ws.flatten.length := by
  induction ws with
  | nil => exact absurd h List.not_mem_nil
  | cons w ws ih =>
    rw [List.flatten_cons, List.length_append]
    exact (List.mem_cons.mp h).elim (fun q => q ▸ Nat.le_add_right _ _) fun q => Nat.le_trans (ih q) (Nat.le_add_left _ _)

section
variable (D : Decl) (T : Ty) (W : AV)
theorem hv_xs (b : Bool) (d : AV) (own : Own) : (RR D 28).src hvF.sc (V2h T W b d) own (lcG hvX).iter = ((evGet own (.loc 0) d).map fun x => (x, own)).bind fun r => (seq? r.1).map fun xs => (xs, r.2) := by kernel_rfl
theorem hv_xvs (b : Bool) (d : AV) : compVs hvF.sc (lcS hvX) (V2h T W b d) = kV := by kernel_rfl
noncomputable abbrev fWay (K : List (Ty × AV)) : AV → Bool := fun P => (li? P).any fun xs => (xs.filter (fKey K)).isEmpty
theorem way_is (K : List (Ty × AV)) (ps : List Ty) : fWay K (.lst (ps.map .ty)) = (ps.filter fun p => !hasKey K p).isEmpty := by
  show ((ps.map AV.ty).filter (fKey K)).isEmpty = _
  rw [filter_ty, List.isEmpty_map]
theorem filter_way (K : List (Ty × AV)) (ws : List (List Ty)) : (ws.map fun ps => AV.lst (ps.map .ty)).filter (fWay K) = (ws.filter fun ps => (ps.filter fun p => !hasKey K p).isEmpty).map fun ps => .lst (ps.map .ty) :=
  List.filter_map.trans (congrArg _ (congrArg (List.filter · ws) (funext fun ps => way_is K ps)))
theorem ways_few (D : Decl) (hD : D.Ok) (k : Ty) : (D.ways k).length ≤ 1000 := by
  cases hab : isAB k with
  | true => exact (ways_ab hab).elim (fun q => q ▸ Nat.le_trans hD.a.le (by decide)) fun q => q ▸ Nat.le_trans hD.b.le (by decide)
  | false =>
    rw [show D.ways k = waysT [] [] k from (ways_out D.wA D.wB hab).symm]
    exact of_decide_eq_true (List.all_eq_true.mp (show (allT.all fun t => decide ((waysT [] [] t).length ≤ 1000)) = true by decide +kernel) k (mem_allT k))
theorem hv_g0 (b : Bool) (k : Ty) (kvs K : List (Ty × AV)) (o : OD) (hk : kvs.lookup k = some (tyL (D.ways k))) (hD : D.Ok) :
    stepS (RR D 28) hvF.sc (V2h T W b (enc k)) [.dct kvs, o, .dct K] (hvG 0) = some (.next, V2w T W b (enc k) (tyL (madeOf D K k)), [.dct kvs, o, .dct K]) := by
  have hlen : ∀ ps ∈ D.ways k, ps.length ≤ 1000 := fun ps hp => Nat.le_trans (len_flat hp) (Nat.le_trans (ways_small D hD k) (by decide))
  have hs : (RR D 28).src hvF.sc (V2h T W b (enc k)) [.dct kvs, o, .dct K] (lcG hvX).iter = some ((D.ways k).map fun ps => .lst (ps.map .ty), [.dct kvs, o, .dct K]) := by
    rw [hv_xs]
    have : evGet [.dct kvs, o, .dct K] (.loc 0) (enc k) = some (tyL (D.ways k)) := by
      show (decT (enc k)).bind (fun t => kvs.lookup t) = _
      rw [decT_enc]; exact hk
    rw [this]; rfl
  refine S_comp hvG0_is (by kernel_rfl) (by kernel_rfl) (d := tyL (madeOf D K k)) (o1 := [.dct kvs, o, .dct K]) ?_
  refine comp_if (c := lcC hvX) (by kernel_rfl) hs (by kernel_rfl) ?_ ?_
  · rw [hv_xvs, ← filter_way]
    refine compGo_filter (x := nm "parts") fun d hd => ?_
    obtain ⟨ps, hp, q⟩ := List.mem_map.mp hd
    rw [← q]
    exact ⟨by kernel_rfl, (hv_xt D (.dct kvs) o K ps (hlen ps hp)).trans (by rw [way_is]), by kernel_rfl⟩
  · rw [List.length_map]; exact Nat.le_trans (List.length_filter_le _ _) (ways_few D hD k)

noncomputable def hvT1 : Expr := ifT (hvG 1)
noncomputable def hvP : Stmt := ((ifB (hvG 1))[0]?).getD default
theorem hvG1_is : hvG 1 = .If hvT1 [hvP] [] (ifP (hvG 1)) := by kernel_rfl
theorem hvT1_is : hvT1 = .BoolOp .And [boA hvT1 0, boA hvT1 1] (exP hvT1) := by kernel_rfl
theorem hvT1b : boA hvT1 1 = .Compare (cmpL (boA hvT1 1)) [.NotEq] [cmpR (boA hvT1 1)] (exP (boA hvT1 1)) := by kernel_rfl
theorem hvP_is : hvP = .Assign [.Tuple [tuX (asT hvP) 0, tuX (asT hvP) 1] (tuK (asT hvP)) (tuP (asT hvP))] (.Tuple [tuX (asV hvP) 0, tuX (asV hvP) 1] (tuK (asV hvP)) (tuP (asV hvP))) (asP hvP) := by kernel_rfl
theorem hv_ta (b : Bool) (d e : AV) (own : Own) : (RR D 27).t hvF.sc (V2w T W b d e) own (boA hvT1 0) = (evCmp own .NotIn d (.loc 2)).map fun c => (c, own) := by
  have : (RR D 27).t hvF.sc (V2w T W b d e) own (boA hvT1 0) = (((evCmp own .NotIn d (.loc 2)).map fun c => (AV.bool c, own)).bind fun r => (bl? r.1).map fun b => (b, r.2)) := by kernel_rfl
  rw [this]
  cases evCmp own .NotIn d (.loc 2) <;> rfl
theorem hv_p1 (b : Bool) (d e : AV) (own : Own) : (RR D 27).put hvF.sc (V2w T W b d e) own (tuX (asT hvP) 0) (.bool true) = (evStore own 2 d (.bool true)).map fun own => (V2w T W b d e, own) := by kernel_rfl
theorem hv_p2 (b : Bool) (d e : AV) (own : Own) : (RR D 27).put hvF.sc (V2w T W b d e) own (tuX (asT hvP) 1) (.bool true) = some (V2w T W true d e, own) := by kernel_rfl
theorem hv_pr (b : Bool) (d e : AV) (own : Own) : (RR D 27).rhss hvF.sc (V2w T W b d e) own [tuX (asV hvP) 0, tuX (asV hvP) 1] = some ([.bool true, .bool true], own) := by kernel_rfl

noncomputable abbrev stepK (D : Decl) (s : List (Ty × AV) × Bool) (k : Ty) : List (Ty × AV) × Bool := if !hasKey s.1 k && canMake D s.1 k then (s.1 ++ [(k, .bool true)], true) else s
theorem hv_g1 (hc : isClo W = false) (b : Bool) (k : Ty) (K : List (Ty × AV)) (a o : OD) (hK : K.length ≤ 100000) :
    stepS (RR D 28) hvF.sc (V2w T W b (enc k) (tyL (madeOf D K k))) [a, o, .dct K] (hvG 1) = some (.next, V2w T W (stepK D (K, b) k).2 (enc k) (tyL (madeOf D K k)), [a, o, .dct (stepK D (K, b) k).1]) := by
  have ht : (RR D 28).t hvF.sc (V2w T W b (enc k) (tyL (madeOf D K k))) [a, o, .dct K] hvT1 = some (!hasKey K k && canMake D K k, [a, o, .dct K]) := by
    have h1 : (RR D 27).t hvF.sc (V2w T W b (enc k) (tyL (madeOf D K k))) [a, o, .dct K] (boA hvT1 0) = some (!hasKey K k, [a, o, .dct K]) := by
      rw [hv_ta]
      show ((decT (enc k)).map fun t => !hasKey K t).map _ = _
      rw [decT_enc]; rfl
    have h2 : (RR D 27).t hvF.sc (V2w T W b (enc k) (tyL (madeOf D K k))) [a, o, .dct K] (boA hvT1 1) = some (canMake D K k, [a, o, .dct K]) := by
      rw [← made_iff]
      exact T_cmp hvT1b (by kernel_rfl) (a := tyL (madeOf D K k)) (o1 := [a, o, .dct K]) (by kernel_rfl) (b := .lst []) (by kernel_rfl) (ne_nil_tyL _)
    have h3 := T_and (R := RR D 27) hvT1_is h1 fun _ => h2
    refine Eq.trans (b := if (!hasKey K k) = true then some (canMake D K k, [a, o, OD.dct K]) else some (false, [a, o, OD.dct K])) h3 ?_
    cases hasKey K k <;> rfl
  refine (S_if hvG1_is ht).trans ?_
  unfold stepK
  cases hcm : (!hasKey K k && canMake D K k) with
  | false => rfl
  | true =>
    have hno : hasKey K k = false := and_is hcm fun q _ => Bool.not_inj (q.trans rfl)
    refine (SS_next (S_pair hvP_is ?_ (by kernel_rfl) (hv_pr D T W b _ _ _) (vs' := V2w T W b (enc k) (tyL (madeOf D K k))) (o2 := [a, o, .dct (K ++ [(k, .bool true)])]) ?_ (hv_p2 D T W b _ _ _))).trans rfl
    · show (isClo W || (isClo (enc k) || false)) = false
      rw [hc, isClo_enc]; rfl
    · rw [hv_p1, store_ty (kvs := K) (t := k) rfl (decT_enc k) (not_str k) hK, hno]; rfl
end

structure Inv2 (D : Decl) (K : List (Ty × AV)) : Prop where
  nd : (K.map (·.1)).Nodup
  der : ∀ t ∈ K.map (·.1), Der D t
structure Walk (D : Decl) (K : List (Ty × AV)) (b : Bool) (ks : List Ty) (r : List (Ty × AV) × Bool) : Prop where
  inv : Inv2 D r.1
  le : K.length ≤ r.1.length
  yes : r.2 = true → b = true ∨ K.length < r.1.length
  no : r.2 = false → b = false ∧ r.1 = K ∧ ∀ k ∈ ks, hasKey K k = true ∨ canMake D K k = false
theorem Inv2.step {D : Decl} {K : List (Ty × AV)} (I : Inv2 D K) (b : Bool) (k : Ty) : Walk D K b [k] (stepK D (K, b) k) := by
  unfold stepK
  cases h : (!hasKey K k && canMake D K k) with
  | false =>
    refine ⟨I, Nat.le_refl _, .inl, fun q => ⟨q, rfl, fun k' hk => List.mem_singleton.mp hk ▸ ?_⟩⟩
    cases q1 : hasKey K k with
    | true => exact .inl rfl
    | false => rw [q1] at h; exact .inr h
  | true =>
    have ⟨h1, h2⟩ := Bool.and_eq_true_iff.mp h
    have hno : k ∉ K.map (·.1) := fun q => Bool.false_ne_true ((Bool.not_inj (h1.trans rfl : (!hasKey K k) = !false)).symm.trans (hasKey_iff.mpr q))
    have e : (K ++ [(k, AV.bool true)]).map (·.1) = K.map (·.1) ++ [k] := List.map_append
    obtain ⟨ps, z1, z2⟩ := List.any_eq_true.mp h2
    refine ⟨⟨e ▸ nodup_end I.nd hno, fun t ht => ?_⟩, by rw [if_pos rfl, len1]; exact Nat.le_succ _, fun _ => .inr (by rw [if_pos rfl, len1]; exact Nat.lt_succ_self _), fun q => nomatch q⟩
    exact mem_snoc (e ▸ ht) (I.der t) fun q => q ▸ .mk z1 fun p hp => I.der p (hasKey_iff.mp (List.all_eq_true.mp z2 p hp))
theorem Inv2.fold {D : Decl} (ks : List Ty) : ∀ {K : List (Ty × AV)} (b : Bool), Inv2 D K → Walk D K b ks (ks.foldl (stepK D) (K, b)) := by
  induction ks with
  | nil => exact fun b I => ⟨I, Nat.le_refl _, .inl, fun q => ⟨q, rfl, fun k hk => absurd hk List.not_mem_nil⟩⟩
  | cons k ks ih =>
    intro K b I
    have a := I.step b k
    have c := ih (stepK D (K, b) k).2 a.inv
    refine ⟨c.inv, Nat.le_trans a.le c.le, fun q => (c.yes q).elim (fun z => (a.yes z).imp id fun y => Nat.lt_of_lt_of_le y c.le) fun z => .inr (Nat.lt_of_le_of_lt a.le z), fun q => ?_⟩
    have ⟨z1, z2, z3⟩ := c.no q
    have ⟨y1, y2, y3⟩ := a.no z1
    rw [y2] at z3
    exact ⟨y1, z2.trans y2, fun k' hk' => (List.mem_cons.mp hk').elim (fun e => y3 k' (e ▸ .head _)) (z3 k')⟩

section
variable (D : Decl) (T : Ty) (W : AV)
theorem hv_fb (hc : isClo W = false) (hD : D.Ok) (b : Bool) (k : Ty) (kvs K : List (Ty × AV)) (o : OD) (hk : kvs.lookup k = some (tyL (D.ways k))) (hK : K.length ≤ 100000) :
    (RR D 29).ss hvF.sc (setV (nm "here") (enc k) (V2 T W b)) [.dct kvs, o, .dct K] (foB hvL) = some (.next, V2w T W (stepK D (K, b) k).2 (enc k) (tyL (madeOf D K k)), [.dct kvs, o, .dct (stepK D (K, b) k).1]) := by
  have e : setV (nm "here") (enc k) (V2 T W b) = V2h T W b (enc k) := by kernel_rfl
  rw [e, hvL_b]
  show stepSs (RR D 28) hvF.sc (V2h T W b (enc k)) [.dct kvs, o, .dct K] [hvG 0, hvG 1] = _
  rw [SS_next (hv_g0 D T W b k kvs K o hk hD), SS_next (hv_g1 D T W hc b k K _ _ hK)]
  rfl
theorem no_clo2 {W : AV} (hc : isClo W = false) (k : Ty) : (!isClo W && (!isClo (enc k) && true)) = true := by rw [hc, isClo_enc]; rfl
theorem hv_for (hc : isClo W = false) (hD : D.Ok) (kvs : List (Ty × AV)) (o : OD) (ks : List Ty) : ∀ (K : List (Ty × AV)) (b : Bool), (∀ k ∈ ks, kvs.lookup k = some (tyL (D.ways k))) → Inv2 D K →
    forGo (nm "here") (fun vs own => (RR D 29).ss hvF.sc vs own (foB hvL)) (ks.map enc) (V2 T W b) [.dct kvs, o, .dct K] = some (.next, V2 T W (ks.foldl (stepK D) (K, b)).2, [.dct kvs, o, .dct (ks.foldl (stepK D) (K, b)).1]) := by
  induction ks with
  | nil => exact fun _ _ _ _ => rfl
  | cons k ks ih =>
    intro K b h I
    refine Eq.trans ?_ (ih _ _ (fun k' hk' => h k' (.tail _ hk')) (I.step b k).inv)
    exact forGo_next (vs := V2 T W b) (vs' := V2w T W (stepK D (K, b) k).2 (enc k) (tyL (madeOf D K k))) (hv_fb D T W hc hD b k kvs K o (h k (.head _)) (Nat.le_trans (keys_le I.nd) (by decide))) (no_clo2 hc k)

theorem hv_w20 (b : Bool) (own : Own) : stepS (RR D 29) hvF.sc (V2 T W b) own (hvW2 0) = some (.next, V2 T W false, own) := by kernel_rfl
noncomputable abbrev hvLv : Expr := suO (foI hvL)
theorem hvLi : ∃ k p1 p2 p3, foI hvL = .Subscript hvLv (.Slice none none (some (.UnaryOp .USub (.Constant (.int 1) k p1) p2)) p3) (suP (foI hvL)) := by
  obtain ⟨k, p1, p2, p3, e⟩ := rev?_is (e := suI (foI hvL)) (by kernel_rfl)
  exact ⟨k, p1, p2, p3, e ▸ (show foI hvL = .Subscript (suO (foI hvL)) (suI (foI hvL)) (suP (foI hvL)) by kernel_rfl)⟩
theorem hv_ll (b : Bool) (kvs K : List (Ty × AV)) (o : OD) : (RR D 28).e hvF.sc (V2 T W b) [.dct kvs, o, .dct K] hvLv = if kvs.length ≤ 100000 then some (.lst (kvs.map fun kv => enc kv.1), [.dct kvs, o, .dct K]) else none := by kernel_rfl
theorem hv_lsr (b : Bool) (own : Own) : (RR D 29).src hvF.sc (V2 T W b) own (foI hvL) = ((RR D 29).e hvF.sc (V2 T W b) own (foI hvL)).bind fun r => (seq? r.1).map fun xs => (xs, r.2) := by kernel_rfl
theorem lookup_all {kvs : List (Ty × AV)} (hn : (kvs.map (·.1)).Nodup) (kv : Ty × AV) (h : kv ∈ kvs) : kvs.lookup kv.1 = some kv.2 := by
  induction kvs with
  | nil => exact absurd h List.not_mem_nil
  | cons e r ih =>
    have hn := List.nodup_cons.mp hn
    rw [List.lookup_cons]
    rcases List.mem_cons.mp h with q | q
    · rw [q, beq_self_eq_true]
    · rw [show (kv.1 == e.1) = false from beq_eq_false_iff_ne.mpr fun z => hn.1 (List.mem_map.mpr ⟨kv, q, z⟩)]
      exact ih hn.2 q
theorem hv_body2 (hc : isClo W = false) (hD : D.Ok) (b : Bool) (kvs K : List (Ty × AV)) (o : OD) (I1 : Inv1 D T kvs []) (I : Inv2 D K) :
    (RR D 30).ss hvF.sc (V2 T W b) [.dct kvs, o, .dct K] (whB (hvS 3)) = some (.next, V2 T W ((kvs.map (·.1)).reverse.foldl (stepK D) (K, false)).2, [.dct kvs, o, .dct ((kvs.map (·.1)).reverse.foldl (stepK D) (K, false)).1]) := by
  rw [hvW2_b]
  show stepSs (RR D 29) hvF.sc (V2 T W b) [.dct kvs, o, .dct K] [hvW2 0, hvL] = _
  rw [SS_next (hv_w20 D T W b _)]
  have he : (RR D 29).e hvF.sc (V2 T W false) [.dct kvs, o, .dct K] (foI hvL) = some (.lst ((kvs.map fun kv => enc kv.1).reverse), [.dct kvs, o, .dct K]) := by
    have hl : kvs.length ≤ 100000 := Nat.le_trans (keys_le I1.nd) (by decide)
    obtain ⟨k, p1, p2, p3, hi⟩ := hvLi
    exact E_rev (R := RR D 28) hi ((hv_ll D T W false kvs K o).trans (if_pos hl)) (by rw [List.length_map]; exact hl)
  have hs : (RR D 29).src hvF.sc (V2 T W false) [.dct kvs, o, .dct K] (foI hvL) = some ((kvs.map (·.1)).reverse.map enc, [.dct kvs, o, .dct K]) := by
    rw [hv_lsr, he]
    show some ((kvs.map fun kv => enc kv.1).reverse, _) = _
    rw [← List.map_reverse, ← List.map_reverse, List.map_map]; rfl
  have hf : stepS (RR D 29) hvF.sc (V2 T W false) [.dct kvs, o, .dct K] hvL = some (.next, V2 T W ((kvs.map (·.1)).reverse.foldl (stepK D) (K, false)).2, [.dct kvs, o, .dct ((kvs.map (·.1)).reverse.foldl (stepK D) (K, false)).1]) := by
    rw [S_for hvL_is ?_ hs]
    · refine hv_for D T W hc hD kvs o _ K false (fun k hk => ?_) I
      obtain ⟨kv, h1, e⟩ := List.mem_map.mp (List.mem_reverse.mp hk)
      rw [← e, lookup_all I1.nd kv h1, I1.vals kv h1]
    · rw [show (V2 T W false).all (fun v => !isClo v.2) = true from no_clo hc]; kernel_rfl
  rw [SS_next hf]; rfl

noncomputable abbrev tst2 (D : Decl) : Vars → Own → Option (Bool × Own) := fun vs own => (RR D 30).t hvF.sc vs own (whT (hvS 3))
noncomputable abbrev bod2 (D : Decl) : Vars → Own → Option (Fl × Vars × Own) := fun vs own => (RR D 30).ss hvF.sc vs own (whB (hvS 3))
theorem less85 {a b n : Nat} (h : 85 - a + 1 < n + 1) (l : a < b) (hb : b ≤ 85) : 85 - b + 1 < n := Nat.lt_of_le_of_lt (Nat.succ_le_of_lt (Nat.sub_lt_sub_left (Nat.lt_of_lt_of_le l hb) l)) (Nat.lt_of_succ_lt_succ h)
theorem hv_loop2 (hc : isClo W = false) (hD : D.Ok) (kvs : List (Ty × AV)) (o : OD) (I1 : Inv1 D T kvs []) (n : Nat) : ∀ {K : List (Ty × AV)}, Inv2 D K → 85 - K.length + 1 < n →
    ∃ K', Inv2 D K' ∧ (∀ k ∈ kvs.map (·.1), hasKey K' k = true ∨ canMake D K' k = false) ∧ whileGo (tst2 D) (bod2 D) n (V2 T W true) [.dct kvs, o, .dct K] = some (.next, V2 T W false, [.dct kvs, o, .dct K']) := by
  induction n with
  | zero => exact fun _ h => absurd h (Nat.not_lt_zero _)
  | succ n ih =>
    intro K I h
    have w := I.fold (kvs.map (·.1)).reverse false
    have hw := while_next (t := tst2 D) (b := bod2 D) (n := n) (vs := V2 T W true) (vs' := V2 T W ((kvs.map (·.1)).reverse.foldl (stepK D) (K, false)).2) (hv_t3 D T W true _) (hv_body2 D T W hc hD true kvs K o I1 I) (no_clo hc)
    cases hb2 : ((kvs.map (·.1)).reverse.foldl (stepK D) (K, false)).2 with
    | true =>
      rw [hb2] at hw
      obtain ⟨K', a, b, c⟩ := ih w.inv (less85 h ((w.yes hb2).resolve_left Bool.false_ne_true) (keys_le w.inv.nd))
      exact ⟨K', a, b, hw.trans c⟩
    | false =>
      have ⟨_, z2, z3⟩ := w.no hb2
      rw [hb2, z2] at hw
      refine ⟨K, I, fun k hk => z3 k (List.mem_reverse.mpr hk), hw.trans ?_⟩
      obtain ⟨m, e⟩ := Nat.exists_eq_succ_of_ne_zero (Nat.ne_of_gt (Nat.lt_of_lt_of_le (Nat.succ_pos _) (Nat.le_of_lt_succ h)))
      rw [e]
      exact while_stop (hv_t3 D T W false _)
end

theorem der_known {D : Decl} {T : Ty} {kvs K : List (Ty × AV)} (I1 : Inv1 D T kvs []) (I : Inv2 D K) (h : ∀ k ∈ kvs.map (·.1), hasKey K k = true ∨ canMake D K k = false) : hasKey K T = true ↔ Der D T := by
  have key : ∀ {t : Ty}, Der D t → t ∈ kvs.map (·.1) → hasKey K t = true := fun ht => Der.rec (motive := fun t _ => t ∈ kvs.map (·.1) → hasKey K t = true) (fun {t ps} h1 _ ih hm => (h t hm).elim id fun z => by
    obtain ⟨kv, k1, e⟩ := List.mem_map.mp hm
    rw [← e] at h1 z
    exact absurd (z.symm.trans (List.any_eq_true.mpr ⟨ps, h1, List.all_eq_true.mpr fun p hp => ih p hp ((I1.parts kv k1 ps h1 p hp).resolve_right List.not_mem_nil)⟩)) Bool.false_ne_true) ht
  exact ⟨fun q => I.der T (hasKey_iff.mp q), fun q => key q (I1.has.resolve_right List.not_mem_nil)⟩

open Classical in
noncomputable def derB (D : Decl) (T : Ty) : Bool := decide (Der D T)

section
variable (D : Decl) (T : Ty) (fs : List (Str × AV))
noncomputable abbrev WI (fs : List (Str × AV)) : AV := .inst 166 fs
theorem hvF_is : fnAt 118 = some hvF := by kernel_rfl
theorem hvF_ps (T W : AV) : hvF.params.zip [T, W] = vs0 T W := by kernel_rfl
theorem hvF_len : hvF.params.length = 2 := by kernel_rfl
theorem hvF_b : hvF.body = [hvS 0, hvS 1, hvS 2, hvS 3, hvS 4] := by kernel_rfl
theorem hv_S0 : stepS (RR D 30) hvF.sc (vs0 (.ty T) (WI fs)) [] (hvS 0) = some (.next, V1 T (WI fs), [.dct [], .lst [.ty T]]) := by kernel_rfl
theorem hv_S2 (o1 o2 : OD) : stepS (RR D 30) hvF.sc (V1 T (WI fs)) [o1, o2] (hvS 2) = some (.next, V2 T (WI fs) true, [o1, o2, .dct []]) := by kernel_rfl
theorem hv_S4 (own : Own) : stepS (RR D 30) hvF.sc (V2 T (WI fs) false) own (hvS 4) = ((evCmp own .In (.ty T) (.loc 2)).map fun c => (AV.bool c, own)).map fun d => (Fl.ret d.1, V2 T (WI fs) false, d.2) := by kernel_rfl
theorem world_inst : ∃ fs, D.world = WI fs := ⟨_, rfl⟩

theorem hv_run (hD : D.Ok) : ∃ own', (RR D 31).ss hvF.sc (vs0 (.ty T) D.world) [] hvF.body = some (.ret (.bool (derB D T)), V2 T D.world false, own') := by
  obtain ⟨fs, hfs⟩ := world_inst D
  have hW : WOk D (WI fs) := hfs ▸ D.good.same
  rw [hfs]
  have hc : isClo (WI fs) = false := rfl
  have I0 : Inv1 D T [] [T] := ⟨.nil, (fun kv h => nomatch h), (fun kv h => nomatch h), .inr (.head _), (by decide : 1 + 4 * (85 - 0) ≤ 341)⟩
  obtain ⟨kvs, I1, hl1⟩ := hv_loop1 D T (WI fs) hc hW hD turns I0 (show 1 + 5 * (85 - 0) < 100000 by decide)
  obtain ⟨K, I2, hcl, hl2⟩ := hv_loop2 D T (WI fs) hc hD kvs (.lst []) I1 turns (K := []) ⟨.nil, fun t h => nomatch h⟩ (show 85 - 0 + 1 < 100000 by decide)
  have hk := der_known I1 I2 hcl
  have hd : derB D T = hasKey K T := by
    cases q : hasKey K T with
    | true => exact @decide_eq_true _ (Classical.propDecidable _) (hk.mp q)
    | false => exact @decide_eq_false _ (Classical.propDecidable _) fun z => Bool.false_ne_true (q.symm.trans (hk.mpr z))
  have s1 : stepS (RR D 30) hvF.sc (V1 T (WI fs)) [.dct [], .lst [.ty T]] (hvS 1) = some (.next, V1 T (WI fs), [.dct kvs, .lst []]) := by
    rw [while_eq hvW_is rfl]; exact hl1
  have s3 : stepS (RR D 30) hvF.sc (V2 T (WI fs) true) [.dct kvs, .lst [], .dct []] (hvS 3) = some (.next, V2 T (WI fs) false, [.dct kvs, .lst [], .dct K]) := by
    rw [while_eq hvW2_is rfl]; exact hl2
  refine ⟨[.dct kvs, .lst [], .dct K], ?_⟩
  rw [hvF_b]
  show stepSs (RR D 30) hvF.sc (vs0 (.ty T) (WI fs)) [] _ = _
  rw [SS_next (hv_S0 D T fs), SS_next s1, SS_next (hv_S2 D T fs _ _), SS_next s3, hd]
  refine SS_ret ?_
  rw [hv_S4]
  rfl

theorem run_call {P : Prims} {R : Rec} {a : Addr} {args : List AV} {own own' : Own} {fn : Fn} {vs : Vars} {vs' : Vars} {d d' : AV} (h0 : P.call (.val (.ref a)) args own = none) (hf : fnAt a = some fn) (hl : (args.length == fn.params.length) = true) (hv : fn.params.zip args = vs) (h : R.ss fn.sc vs own fn.body = some (.ret d, vs', own')) (hr : resolve own' own.length d = some d')
    (hc : ((own'.take own.length).all (closedOD own.length)) = true) : stepCall P R (.val (.ref a)) args own = some (d', own'.take own.length) := by
  show (match P.call (.val (.ref a)) args own with
    | some r => some r
    | none => runFn R a args own) = _
  rw [h0]
  show (fnAt a).bind _ = _
  rw [hf]
  refine (if_pos hl).trans ?_
  rw [hv, h]
  show (resolve own' own.length d).bind _ = _
  rw [hr]
  exact if_pos hc
theorem hv_call (hD : D.Ok) : (RR D 32).call (.val (.ref 118)) [.ty T, D.world] [] = some (.bool (derB D T), []) := by
  obtain ⟨own', h⟩ := hv_run D T hD
  exact run_call (P := pr2 D) (R := RR D 31) rfl hvF_is (by rw [hvF_len]; rfl) (hvF_ps _ _) h rfl rfl
end

section
variable {w : World} {base : Heap} {mg mb : Str → Option Value} {X μ : List Addr} {own own' : Own} {A : Around} {s : Shared} {n m : Nat}

theorem Core.at_ {h : Heap} (C : Core w base X μ own h) {i : Nat} {o : OD} (e : own[i]? = some o) : ∃ a, μ[i]? = some a ∧ OIs w h X μ a o := C.own.get e

theorem Core.only {h : Heap} (C : Core w base X μ own h) {i : Nat} {a : Addr} {o : OD} (ha : μ[i]? = some a) (ho : OIs w h X μ a o) (hc : closedOD 0 o = true) : Core w base X [a] [o] h :=
  have hm := List.mem_of_getElem? ha
  ⟨C.stays, C.baseX, C.tabX, C.tab, .cons (ho.closed (fun _ e => e) (fun i hi => absurd hi (Nat.not_lt_zero i)) hc) .nil, fun b hb => List.mem_singleton.mp hb ▸ C.subμ a hm,
    List.nodup_cons.mpr ⟨fun q => (List.nodup_cons.mp C.apart).1 (List.mem_singleton.mp q ▸ hm), List.nodup_cons.mpr ⟨List.not_mem_nil, List.nodup_nil⟩⟩⟩

theorem call_frame1 {f : AV → List AV → Own → Option (AV × Own)} (hC : SC w base n f) {g : AV} {ds : List AV} {d : AV} {v : Value} {us : List Value} {o o' : OD} {i : Nat} {a : Addr} (h : f g ds [o] = some (d, [o'])) (hg : closed 0 g = true) (hd : closed 0 d = true) (hA : Room A n)
    (C : Core w base X μ own s.heap) (ha : μ[i]? = some a) (ho : OIs w s.heap X μ a o) (hco : closedOD 0 o = true) (hco' : closedOD 0 o' = true) (r : VR w s.heap X μ g v) (rs : VRs w s.heap X [a] ds us) :
    wpAny (model P0 w) A (call v us []) (AftC w base X μ s (own.set i o') d) noE s := by
  have r0 : VR w s.heap X [a] g v := r.closed (fun _ e => e) (fun i hi => absurd hi (Nat.not_lt_zero i)) hg
  have hm := List.mem_of_getElem? ha
  refine wpAny_mono (hC.ok h hA (C.only ha ho hco) r0 rs) (fun v s' q => q.casesOn fun h' tk e T C' rv => ?_) fun _ _ e => e
  have ⟨ap, nd⟩ := List.nodup_cons.mp C.apart
  have kp : ∀ b o, s.heap.get? b = some o → b ≠ 83 → b ≠ a → h'.get? b = some o := fun b o e h1 h2 => T.keep b o e fun q => (List.mem_cons.mp q).elim h1 fun q => h2 (List.mem_singleton.mp q)
  have hk : ∀ b o, s.heap.get? b = some o → b ∉ X → b ∉ X ∧ h'.get? b = some o := fun b o e hn => ⟨hn, kp b o e (fun q => hn (q ▸ C.tabX)) fun q => hn (q ▸ C.subμ a hm)⟩
  have hO : OIs w h' X μ a o' := (C'.own.get (i := 0) rfl).elim fun b q => (Option.some.inj q.1 : a = b) ▸ q.2.closed (fun _ e => e) (fun i hi => absurd hi (Nat.not_lt_zero i)) hco'
  exact ⟨h', tk, e, ⟨fun b o e hn => kp b o e (fun q => hn (q ▸ .head _)) fun q => hn (.tail _ (q ▸ hm)), T.live, fun b hb => .inl hb, [], (List.append_nil _).symm, fun b hb => (nomatch hb)⟩,
    ⟨C'.stays, C'.baseX, C'.tabX, C'.tab, Owns.set hk (fun b hb hne o e => kp b o e (fun q => ap (q ▸ hb)) hne) nd C.own ha hO, C.subμ, C.apart⟩, rv.closed (fun _ e => e) (fun i hi => absurd hi (Nat.not_lt_zero i)) hd⟩

theorem OIs.list {h : Heap} {a : Addr} {σ : Src} (o : OIs w h X μ a (.src σ)) : OIs w h X μ a (.lst [.int σ.a, .int σ.b]) := o.ow.elim fun t q => q.elim fun u q => .lst q (.cons (.int _ _) (.cons (.int _ _) .nil))
theorem OIs.source {h : Heap} {a : Addr} {σ : Src} (o : OIs w h X μ a (.lst [.int σ.a, .int σ.b])) : OIs w h X μ a (.src σ) := o.ow.elim fun us q => by
  obtain ⟨hl, r⟩ := q
  obtain ⟨us⟩ := us
  have r : VRs w h X μ [.int σ.a, .int σ.b] us := r
  revert hl
  exact VRs.twoI r fun _ _ a b => a.intI fun _ => b.intI fun _ => .src
theorem AftC.turnOwn {d : AV} {v : Value} {s' : Shared} {i : Nat} {o o' : OD} (h : AftC w base X μ s (own.set i o) d v s') (hi : i < own.length) (hoo : ∀ h' a, OIs w h' X μ a o → OIs w h' X μ a o') : AftC w base X μ s (own.set i o') d v s' := h.casesOn fun h' tk e1 T C r => by
  obtain ⟨a, ha, ho⟩ := C.own.get (i := i) (List.getElem?_set_self hi)
  have hO := Owns.set (fun _ _ e z => ⟨z, e⟩) (fun _ _ _ _ e => e) (List.nodup_cons.mp C.apart).2 C.own ha (hoo _ _ ho)
  rw [List.set_set] at hO
  exact ⟨h', tk, e1, T, ⟨C.stays, C.baseX, C.tabX, C.tab, hO, C.subμ, C.apart⟩, r⟩

theorem VR.loc0 {h : Heap} {i : Nat} {a : Addr} {u : Value} (r : VR w h X μ (.loc i) u) (e : μ[i]? = some a) : VR w h X [a] (.loc 0) u := VR.locI r fun b e' => .loc (i := 0) (e.symm.trans e' : some a = some b)
theorem VR.bare0 {h : Heap} {μ' : List Addr} {d : AV} {u : Value} (r : VR w h X μ d u) (hc : Mine.closed 0 d = true) : VR w h X μ' d u := r.closed (fun _ e => e) (fun i hi => absurd hi (Nat.not_lt_zero i)) hc
theorem frame_at {f : AV → List AV → Own → Option (AV × Own)} (hC : SC w base n f) {x : Addr} {o o' : OD} {i : Nat} {d : AV} {ds : List AV} {us : List Value} (q : own[i]? = some o) (h : f (.val (.ref x)) ds [o] = some (d, [o'])) (hd : closed 0 d = true) (hA : Room A n)
    (C : Core w base X μ own s.heap) (hco : closedOD 0 o = true) (hco' : closedOD 0 o' = true) (rs : ∀ a, μ[i]? = some a → VRs w s.heap X [a] ds us) : wpAny (model P0 w) A (call (.ref x) us []) (AftC w base X μ s (own.set i o') d) noE s :=
  (C.at_ q).elim fun a e => call_frame1 hC h rfl hd hA C e.1 e.2 hco hco' (.val _) (rs a e.1)
end

section
variable {R : Rec} {sc : Scope} {vs vs' : Vars} {own o1 o2 o3 : Own}
theorem E_bin {e l r : Expr} {op : Operator} {p : Pos} {a b f : AV} (h : e = .BinOp l op r p) (hl : R.e sc vs own l = some (a, o1)) (hr : R.e sc vs o1 r = some (b, o2)) (hb : evBin o2 op a b = some f) : stepE R sc vs own e = some (f, o2) := by
  rw [h]
  show (R.e sc vs own l).bind _ = _
  rw [hl]
  show (R.e sc vs o1 r).bind _ = _
  rw [hr]
  show (evBin o2 op a b).map _ = _
  rw [hb]; rfl
theorem S_name {st : Stmt} {x : Str} {v : Expr} {p q : Pos} {d : AV} (h : st = .Assign [.Name x p] v q) (hk : (kindV sc x && putOk sc vs x) = true) (hc : isComp v = false) (hv : R.rhs sc vs own v = some (d, o1)) : stepS R sc vs own st = some (.next, setV x d vs, o1) := by
  rw [h]
  have e : sAssign R sc vs own v (.Name x p) = some (setV x d vs, o1) := (if_pos hk).trans ((if_neg (hc ▸ Bool.false_ne_true)).trans (by rw [hv]; rfl))
  show (sAssign R sc vs own v (.Name x p)).map _ = _
  rw [e]; rfl
theorem S_ret {st : Stmt} {e : Expr} {p : Pos} {d : AV} (h : st = .Return (some e) p) (hr : retOwn e = false) (hv : R.e sc vs own e = some (d, o1)) : stepS R sc vs own st = some (.ret d, vs, o1) := by
  rw [h]
  show (if retOwn e = true then R.rhs sc vs own e else R.e sc vs own e).map _ = _
  rw [hr, if_neg Bool.false_ne_true, hv]; rfl
theorem es_cons' {a : Expr} {as : List Expr} {d : AV} {ds : List AV} (hs : isStar a = false) (ha : R.e sc vs own a = some (d, o1)) (hb : R.es sc vs o1 as = some (ds, o2)) : R.es sc vs own (a :: as) = some (d :: ds, o2) := by
  refine (if_neg (hs ▸ Bool.false_ne_true)).trans ?_
  rw [ha, Option.bind_some, hb]; rfl
theorem es_one' {a : Expr} {d : AV} (hs : isStar a = false) (ha : R.e sc vs own a = some (d, o1)) : R.es sc vs own [a] = some ([d], o1) := es_cons' hs ha rfl
theorem es_two' {a b : Expr} {d e : AV} (hs : isStar a = false) (hs' : isStar b = false) (ha : R.e sc vs own a = some (d, o1)) (hb : R.e sc vs o1 b = some (e, o2)) : R.es sc vs own [a, b] = some ([d, e], o2) := es_cons' hs ha (es_one' hs' hb)
noncomputable abbrev callForm (R : Rec) (sc : Scope) (vs : Vars) (fe : Expr) (args : List Expr) (own : Own) : Option (AV × Own) := (R.e sc vs own fe).bind fun g => (R.es sc vs g.2 args).bind fun ds => R.call g.1 ds.1 ds.2
theorem E_call {e fe : Expr} {args : List Expr} {g : AV} {ds : List AV} {r : AV × Own} (hcall : stepE R sc vs own e = callForm R sc vs fe args own) (hn : R.e sc vs own fe = some (g, o1)) (hes : R.es sc vs o1 args = some (ds, o2)) (hc : R.call g ds o2 = some r) : stepE R sc vs own e = some r := by
  rw [hcall]
  show (R.e sc vs own fe).bind _ = _
  rw [hn]
  show (R.es sc vs o1 args).bind _ = _
  rw [hes]; exact hc
end


noncomputable abbrev R0 (k : Nat) : Rec := run pr0 k
noncomputable def tkF : Fn := (fnAt 184).getD ⟨[], default, []⟩
noncomputable def tkS (i : Nat) : Stmt := (tkF.body[i]?).getD default
noncomputable def tkB (i : Nat) : Stmt := ((ifB (tkS 0))[i]?).getD default
noncomputable abbrev VT (n : Int) : Vars := [(nm "source", .loc 0), (nm "top", .int n)]
noncomputable abbrev oT (a b : Int) : Own := [.lst [.int a, .int b]]
theorem tkF_b : tkF.body = [tkS 0, tkS 1, tkS 2] := by kernel_rfl
theorem tkS0 : tkS 0 = .If (ifT (tkS 0)) (ifB (tkS 0)) [] (ifP (tkS 0)) := by kernel_rfl
theorem tkB_b : ifB (tkS 0) = [tkB 0, tkB 1, tkB 2] := by kernel_rfl
section
variable (n a b : Int)
theorem tk_t : (R0 20).t tkF.sc (VT n) (oT a b) (ifT (tkS 0)) = some (decide (0 < a), oT a b) := by kernel_rfl
-- first way
theorem tkB0 : tkB 0 = .Assign [.Name (nm "digit") (naP (asT (tkB 0)))] (.BinOp (biL (asV (tkB 0))) .Mod (biR (asV (tkB 0))) (biP (asV (tkB 0)))) (asP (tkB 0)) := by kernel_rfl
theorem tk_0l : (R0 18).e tkF.sc (VT n) (oT a b) (biL (asV (tkB 0))) = some (.int a, oT a b) := by kernel_rfl
theorem tk_0r : (R0 18).e tkF.sc (VT n) (oT a b) (biR (asV (tkB 0))) = some (.int n, oT a b) := by kernel_rfl
noncomputable abbrev VD (n d : Int) : Vars := [(nm "source", .loc 0), (nm "top", .int n), (nm "digit", .int d)]
theorem tkB1 : tkB 1 = .Assign [.Subscript (suO (asT (tkB 1))) (suI (asT (tkB 1))) (suP (asT (tkB 1)))] (.BinOp (biL (asV (tkB 1))) .FloorDiv (biR (asV (tkB 1))) (biP (asV (tkB 1)))) (asP (tkB 1)) := by kernel_rfl
theorem tk_1l (d : Int) : (R0 18).e tkF.sc (VD n d) (oT a b) (biL (asV (tkB 1))) = some (.int a, oT a b) := by kernel_rfl
theorem tk_1r (d : Int) : (R0 18).e tkF.sc (VD n d) (oT a b) (biR (asV (tkB 1))) = some (.int n, oT a b) := by kernel_rfl
theorem tk_1p (d c : Int) : (R0 19).put tkF.sc (VD n d) (oT a b) (.Subscript (suO (asT (tkB 1))) (suI (asT (tkB 1))) (suP (asT (tkB 1)))) (.int c) = some (VD n d, oT c b) := by kernel_rfl
theorem tk_2 (d : Int) : stepS (R0 19) tkF.sc (VD n d) (oT a b) (tkB 2) = some (.ret (.int d), VD n d, oT a b) := by kernel_rfl
theorem small_nat {n : Int} (h1 : 1 ≤ n) (h9 : n ≤ 9) : (n ≠ 0 && n.natAbs < 18446744073709551616) = true := by
  obtain ⟨k, e⟩ := Int.eq_ofNat_of_zero_le (Int.le_trans (by decide) h1)
  rw [e] at h1 h9 ⊢
  exact Bool.and_eq_true_iff.mpr ⟨decide_eq_true fun q => absurd (q ▸ h1) (by decide), decide_eq_true (Nat.lt_of_le_of_lt (Int.ofNat_le.mp h9) (by decide))⟩
theorem tk_way1 (h1 : 1 ≤ n) (h9 : n ≤ 9) (h : 0 < a) : (R0 21).ss tkF.sc (VT n) (oT a b) tkF.body = some (.ret (.int (a.fmod n)), VD n (a.fmod n), oT (a.fdiv n) b) := by
  rw [tkF_b]
  show stepSs (R0 20) tkF.sc (VT n) (oT a b) [tkS 0, tkS 1, tkS 2] = _
  have ht : (R0 20).t tkF.sc (VT n) (oT a b) (ifT (tkS 0)) = some (true, oT a b) := by rw [tk_t, decide_eq_true h]
  have hs0 : stepS (R0 19) tkF.sc (VT n) (oT a b) (tkB 0) = some (.next, VD n (a.fmod n), oT a b) := by
    refine (S_name tkB0 (by kernel_rfl) rfl (d := .int (a.fmod n)) (o1 := oT a b) ?_).trans (by kernel_rfl)
    refine E_bin (R := R0 18) (p := biP (asV (tkB 0))) rfl (tk_0l n a b) (tk_0r n a b) ?_
    show (if (n ≠ 0 && n.natAbs < 18446744073709551616) = true then some (AV.int (a.fmod n)) else none) = _
    rw [if_pos (small_nat h1 h9)]
  have hs1 : stepS (R0 19) tkF.sc (VD n (a.fmod n)) (oT a b) (tkB 1) = some (.next, VD n (a.fmod n), oT (a.fdiv n) b) := by
    refine S_asub tkB1 rfl (d := .int (a.fdiv n)) (o1 := oT a b) ?_ (tk_1p n a b _ _)
    refine E_bin (R := R0 18) (p := biP (asV (tkB 1))) rfl (tk_1l n a b (a.fmod n)) (tk_1r n a b (a.fmod n)) ?_
    show (if (n ≠ 0 && n.natAbs < 18446744073709551616) = true then some (AV.int (a.fdiv n)) else none) = _
    rw [if_pos (small_nat h1 h9)]
  refine SS_ret ?_
  rw [S_if tkS0 ht, if_pos rfl, tkB_b]
  show stepSs (R0 19) tkF.sc (VT n) (oT a b) [tkB 0, tkB 1, tkB 2] = _
  rw [SS_next hs0, SS_next hs1]
  exact SS_ret (tk_2 n _ b _)
-- second way
noncomputable def tkU : Expr := asV (tkS 1)
noncomputable def tkU1 : Expr := biL tkU
noncomputable def tkX : Expr := caA tkU1 0
noncomputable def tkX1 : Expr := biL tkX
theorem tkU_is : tkS 1 = .Assign [.Subscript (suO (asT (tkS 1))) (suI (asT (tkS 1))) (suP (asT (tkS 1)))] tkU (asP (tkS 1)) := by kernel_rfl
theorem tkU_e : tkU = .BinOp tkU1 .Mod (biR tkU) (biP tkU) := by kernel_rfl
theorem tkX_e : tkX = .BinOp tkX1 .Add (biR tkX) (biP tkX) := by kernel_rfl
theorem tkX1_e : tkX1 = .BinOp (biL tkX1) .Mult (biR tkX1) (biP tkX1) := by kernel_rfl
theorem tk_x1 : (R0 17).e tkF.sc (VT n) (oT a b) tkX1 = some (.int (b * 39373), oT a b) := by
  show stepE (R0 16) tkF.sc (VT n) (oT a b) tkX1 = _
  refine E_bin tkX1_e (a := .int b) (o1 := oT a b) (by kernel_rfl) (b := .int 39373) (o2 := oT a b) (by kernel_rfl) ?_
  show (if (decide (Builtin.Int.intBits b ≤ 64) || decide (Builtin.Int.intBits 39373 ≤ 64)) = true then some (AV.int (b * 39373)) else none) = _
  rw [if_pos]
  rw [show decide (Builtin.Int.intBits 39373 ≤ 64) = true by decide +kernel, Bool.or_true]
theorem tk_x : (R0 18).e tkF.sc (VT n) (oT a b) tkX = some (.int (b * 39373 + 7), oT a b) := by
  show stepE (R0 17) tkF.sc (VT n) (oT a b) tkX = _
  exact E_bin tkX_e (tk_x1 n a b) (b := .int 7) (o2 := oT a b) (by kernel_rfl) rfl
theorem tk_u1' : (R0 19).e tkF.sc (VT n) (oT a b) tkU1 = some (.int (b * 39373 + 7), oT a b) := by
  show stepE (R0 18) tkF.sc (VT n) (oT a b) tkU1 = _
  exact E_call (fe := caF tkU1) (args := [tkX]) (by kernel_rfl) (g := .val (.type "int")) (o1 := oT a b) (by kernel_rfl) (es_one' (by kernel_rfl) (tk_x n a b)) (by kernel_rfl)
theorem tk_s1 : stepS (R0 20) tkF.sc (VT n) (oT a b) (tkS 1) = some (.next, VT n, oT a ((b * 39373 + 7).fmod 2147483647)) := by
  refine S_asub tkU_is (by kernel_rfl) (d := .int ((b * 39373 + 7).fmod 2147483647)) (o1 := oT a b) ?_ (by kernel_rfl)
  show stepE (R0 19) tkF.sc (VT n) (oT a b) tkU = _
  exact E_bin tkU_e (tk_u1' n a b) (b := .int 2147483647) (o2 := oT a b) (by kernel_rfl) rfl
noncomputable def tkR : Expr := reE (tkS 2)
noncomputable def tkR1 : Expr := biL tkR
noncomputable def tkY : Expr := caA tkR1 0
noncomputable def tkY1 : Expr := biL tkY
noncomputable def tkY2 : Expr := biL tkY1
noncomputable def tkZ : Expr := caA tkY2 0
theorem tkS2_is : tkS 2 = .Return (some tkR) (reP (tkS 2)) := by kernel_rfl
theorem tkR_e : tkR = .BinOp tkR1 .Mod (biR tkR) (biP tkR) := by kernel_rfl
theorem tkY_e : tkY = .BinOp tkY1 .FloorDiv (biR tkY) (biP tkY) := by kernel_rfl
theorem tkY1_e : tkY1 = .BinOp tkY2 .Mod (biR tkY1) (biP tkY1) := by kernel_rfl
theorem tkZ_e : tkZ = .BinOp (biL tkZ) .Mult (biR tkZ) (biP tkZ) := by kernel_rfl
theorem bits_le {b : Int} (h0 : 0 ≤ b) (h1 : b < 2147483647) : Builtin.Int.intBits b ≤ 64 := by
  obtain ⟨n, e⟩ := Int.eq_ofNat_of_zero_le h0
  rw [e] at h1 ⊢
  have h1 : n < 2 ^ 31 := Nat.lt_trans (Int.ofNat_lt.mp h1) (by decide)
  refine ite_any (rfl : Builtin.Int.intBits (n : Int) = _) (fun _ e => e ▸ Nat.zero_le _) fun hz e => e ▸ ?_
  exact Nat.le_trans (Nat.succ_le_of_lt ((Nat.log2_lt (fun q => hz (by rw [show n = 0 from q]; rfl)) (k := 31)).mpr h1)) (by decide)
theorem tk_z (h0 : 0 ≤ b) (h1 : b < 2147483647) : (R0 15).e tkF.sc (VT n) (oT a b) tkZ = some (.int (b * b), oT a b) := by
  show stepE (R0 14) tkF.sc (VT n) (oT a b) tkZ = _
  refine E_bin tkZ_e (a := .int b) (o1 := oT a b) (by kernel_rfl) (b := .int b) (o2 := oT a b) (by kernel_rfl) ?_
  show (if (decide (Builtin.Int.intBits b ≤ 64) || decide (Builtin.Int.intBits b ≤ 64)) = true then some (AV.int (b * b)) else none) = _
  rw [if_pos]
  rw [decide_eq_true (bits_le h0 h1)]; rfl
theorem tk_y2 (h0 : 0 ≤ b) (h1 : b < 2147483647) : (R0 16).e tkF.sc (VT n) (oT a b) tkY2 = some (.int (b * b), oT a b) := by
  show stepE (R0 15) tkF.sc (VT n) (oT a b) tkY2 = _
  exact E_call (fe := caF tkY2) (args := [tkZ]) (by kernel_rfl) (g := .val (.type "int")) (o1 := oT a b) (by kernel_rfl) (es_one' (by kernel_rfl) (tk_z n a b h0 h1)) (by kernel_rfl)
theorem tk_y1 (h0 : 0 ≤ b) (h1 : b < 2147483647) : (R0 17).e tkF.sc (VT n) (oT a b) tkY1 = some (.int ((b * b).fmod 2147483629), oT a b) := by
  show stepE (R0 16) tkF.sc (VT n) (oT a b) tkY1 = _
  exact E_bin tkY1_e (tk_y2 n a b h0 h1) (b := .int 2147483629) (o2 := oT a b) (by kernel_rfl) rfl
theorem tk_y (h0 : 0 ≤ b) (h1 : b < 2147483647) : (R0 18).e tkF.sc (VT n) (oT a b) tkY = some (.int (((b * b).fmod 2147483629).fdiv 32), oT a b) := by
  show stepE (R0 17) tkF.sc (VT n) (oT a b) tkY = _
  exact E_bin tkY_e (tk_y1 n a b h0 h1) (b := .int 32) (o2 := oT a b) (by kernel_rfl) rfl
theorem tk_r1 (h0 : 0 ≤ b) (h1 : b < 2147483647) : (R0 19).e tkF.sc (VT n) (oT a b) tkR1 = some (.int (((b * b).fmod 2147483629).fdiv 32), oT a b) := by
  show stepE (R0 18) tkF.sc (VT n) (oT a b) tkR1 = _
  exact E_call (fe := caF tkR1) (args := [tkY]) (by kernel_rfl) (g := .val (.type "int")) (o1 := oT a b) (by kernel_rfl) (es_one' (by kernel_rfl) (tk_y n a b h0 h1)) (by kernel_rfl)
theorem tk_s2 (h0 : 0 ≤ b) (h1 : b < 2147483647) (hn1 : 1 ≤ n) (hn9 : n ≤ 9) : stepS (R0 20) tkF.sc (VT n) (oT a b) (tkS 2) = some (.ret (.int ((((b * b).fmod 2147483629).fdiv 32).fmod n)), VT n, oT a b) := by
  refine S_ret tkS2_is (by kernel_rfl) ?_
  show stepE (R0 19) tkF.sc (VT n) (oT a b) tkR = _
  refine E_bin tkR_e (tk_r1 n a b h0 h1) (b := .int n) (o2 := oT a b) (by kernel_rfl) ?_
  show (if (n ≠ 0 && n.natAbs < 18446744073709551616) = true then some (AV.int _) else none) = _
  rw [if_pos (small_nat hn1 hn9)]
theorem tk_way2 (h0 : 0 ≤ b) (h1 : b < 2147483647) (hn1 : 1 ≤ n) (hn9 : n ≤ 9) (h : ¬ 0 < a) : ∃ (d b' : Int), 0 ≤ b' ∧ b' < 2147483647 ∧ (R0 21).ss tkF.sc (VT n) (oT a b) tkF.body = some (.ret (.int (d.fmod n)), VT n, oT a b') := by
  have hb0 : 0 ≤ (b * 39373 + 7).fmod 2147483647 := Int.fmod_nonneg_of_pos _ (by decide)
  have hb1 : (b * 39373 + 7).fmod 2147483647 < 2147483647 := Int.fmod_lt_of_pos _ (by decide)
  have s1 := tk_s1 n a b
  generalize (b * 39373 + 7).fmod 2147483647 = c at hb0 hb1 s1
  refine ⟨((c * c).fmod 2147483629).fdiv 32, c, hb0, hb1, ?_⟩
  rw [tkF_b]
  show stepSs (R0 20) tkF.sc (VT n) (oT a b) [tkS 0, tkS 1, tkS 2] = _
  have ht : (R0 20).t tkF.sc (VT n) (oT a b) (ifT (tkS 0)) = some (false, oT a b) := by rw [tk_t, decide_eq_false h]
  rw [SS_next (vs' := VT n) (o1 := oT a b) (by rw [S_if tkS0 ht]; rfl), SS_next s1]
  exact SS_ret (tk_s2 n a c hb0 hb1 hn1 hn9)
end

theorem tkF_is : fnAt 184 = some tkF := by kernel_rfl
theorem tkF_ps (s n : AV) : tkF.params.zip [s, n] = [(nm "source", s), (nm "top", n)] := by kernel_rfl
theorem take_ex (σ : Src) (n : Nat) (h1 : 1 ≤ n) (h9 : n ≤ 9) : ∃ (d : Nat) (σ' : Src), d < n ∧ (R0 22).call (.val (.ref 184)) [.loc 0, .int n] [.lst [.int σ.a, .int σ.b]] = some (.int (d : Int), [.lst [.int σ'.a, .int σ'.b]]) := by
  have g1 : (1 : Int) ≤ n := Int.ofNat_le.mpr h1
  have g9 : (n : Int) ≤ 9 := Int.ofNat_le.mpr h9
  have g0 : (0 : Int) < n := Int.lt_of_lt_of_le (by decide) g1
  have key : ∃ (d : Int) (σ' : Src) (vs : Vars), 0 ≤ d ∧ d < n ∧ (R0 21).ss tkF.sc (VT n) (oT σ.a σ.b) tkF.body = some (.ret (.int d), vs, oT σ'.a σ'.b) := by
    rcases Decidable.em (0 < σ.a) with h | h
    · exact ⟨_, ⟨σ.a.fdiv n, σ.b, σ.lo, σ.hi⟩, _, Int.fmod_nonneg_of_pos _ g0, Int.fmod_lt_of_pos _ g0, tk_way1 n σ.a σ.b g1 g9 h⟩
    · obtain ⟨d, b', h0, hb, e⟩ := tk_way2 n σ.a σ.b σ.lo σ.hi g1 g9 h
      exact ⟨_, ⟨σ.a, b', h0, hb⟩, _, Int.fmod_nonneg_of_pos _ g0, Int.fmod_lt_of_pos _ g0, e⟩
  obtain ⟨d, σ', vs, h0, hd, e⟩ := key
  obtain ⟨j, q⟩ := Int.eq_ofNat_of_zero_le h0
  rw [q] at hd e
  exact ⟨j, σ', Int.ofNat_lt.mp hd, run_call (P := pr0) (R := R0 21) rfl tkF_is (by kernel_rfl) (tkF_ps _ _) e rfl rfl⟩

open Classical in
noncomputable def Src.dig (σ : Src) (n : Nat) : Nat := if h : 1 ≤ n ∧ n ≤ 9 then (take_ex σ n h.1 h.2).choose else 0
open Classical in
noncomputable def Src.nxt (σ : Src) (n : Nat) : Src := if h : 1 ≤ n ∧ n ≤ 9 then (take_ex σ n h.1 h.2).choose_spec.choose else σ
theorem Src.take (σ : Src) (n : Nat) (h1 : 1 ≤ n) (h9 : n ≤ 9) : σ.dig n < n ∧ (R0 22).call (.val (.ref 184)) [.loc 0, .int n] [.lst [.int σ.a, .int σ.b]] = some (.int (σ.dig n : Int), [.lst [.int (σ.nxt n).a, .int (σ.nxt n).b]]) := by
  have h : 1 ≤ n ∧ n ≤ 9 := ⟨h1, h9⟩
  have := (take_ex σ n h1 h9).choose_spec.choose_spec
  unfold Src.dig Src.nxt
  rw [dif_pos h, dif_pos h]
  exact this

noncomputable def sr? : OD → Option Src
  | .src σ => some σ
  | _ => none
theorem sr?_is {o : OD} {σ : Src} (h : sr? o = some σ) : o = .src σ := by
  cases o <;> first | exact nn h | exact so h rfl
noncomputable def srAt (own : Own) (d : AV) : Option (Nat × Src) := (lo? d).bind fun i => (own[i]?).bind fun o => (sr? o).map fun σ => (i, σ)
theorem srAt_is {own : Own} {d : AV} {p : Nat × Src} (h : srAt own d = some p) : d = .loc p.1 ∧ own[p.1]? = some (.src p.2) :=
  bind_any h fun i h1 h => bind_any h fun o h2 h => map_any h fun σ h3 e => e ▸ ⟨lo?_is h1, sr?_is h3 ▸ h2⟩
theorem srAt_of {own : Own} {i : Nat} {σ : Src} (h : own[i]? = some (.src σ)) : srAt own (.loc i) = some (i, σ) := by
  show (own[i]?).bind _ = _
  rw [h]; rfl
theorem pAt_is {a : Nat} {g : List AV → Own → Option (AV × Own)} {f : AV → List AV → Own → Option (AV × Own)} {ds : List AV} {own : Own} {r : AV × Own} (h : g ds own = some r) : pAt a g f (.val (.ref a)) ds own = some r := by
  refine (if_pos (beq_self_eq_true _)).trans ?_
  rw [h]
noncomputable def takeP (ds : List AV) (own : Own) : Option (AV × Own) := (two? ds).bind fun p => (srAt own p.1).bind fun q => (in? p.2).bind fun z => (nat? z).bind fun n => if 1 ≤ n && n ≤ 9 then some (.int (.ofNat (q.2.dig n)), own.set q.1 (.src (q.2.nxt n))) else none
noncomputable def callA : AV → List AV → Own → Option (AV × Own) := pAt 184 takeP call0
noncomputable def prA : Prims := ⟨callA, fresh0⟩
theorem takeP_is {own : Own} {i n : Nat} {σ : Src} (h : own[i]? = some (.src σ)) (h1 : 1 ≤ n) (h9 : n ≤ 9) : takeP [.loc i, .int n] own = some (.int (.ofNat (σ.dig n)), own.set i (.src (σ.nxt n))) := by
  show (srAt own (.loc i)).bind _ = _
  rw [srAt_of h]
  exact if_pos (Bool.and_eq_true_iff.mpr ⟨decide_eq_true h1, decide_eq_true h9⟩)
theorem callA_take {own : Own} {i n : Nat} {σ : Src} (h : own[i]? = some (.src σ)) (h1 : 1 ≤ n) (h9 : n ≤ 9) : callA (.val (.ref 184)) [.loc i, .int n] own = some (.int (.ofNat (σ.dig n)), own.set i (.src (σ.nxt n))) := pAt_is (takeP_is h h1 h9)
theorem calA {w : World} : CalS w callA := .at (keep_prim (by decide)) cal0

section
variable {w : World} {base : Heap} {mg mb : Str → Option Value}
theorem scA (G : Gd w base mg mb) : SC w base 23 callA :=
  have S : SC w base 23 (run pr0 22).call := (sound_run (P := pr0) G (sc0 G) cal0 (sf0 G) calF0 22).call
  .at ((sc0 G).up (by decide)) fun {X μ ds own d own' us A s} h hA C rs => by
    refine bind_any h fun p h1 h => bind_any h fun q h2 h => bind_any h fun z h3 h => bind_any h fun n h4 h => ite_then h fun hn h => sp h ?_
    obtain ⟨e1, e2⟩ := srAt_is h2
    rw [two?_is h1, e1, in?_is h3, nat?_is h4] at rs
    refine and_is hn fun n1 n2 => rs.twoI fun u v r1 r2 => ?_
    obtain ⟨a, ha, ho⟩ := C.at_ e2
    exact wpAny_mono (call_frame1 S (q.2.take n (of_decide_eq_true n1) (of_decide_eq_true n2)).2 rfl rfl hA C ha ho.list rfl rfl (.val _) (.cons (r1.loc0 ha) (.cons (r2.bare0 rfl) .nil))) (fun v s' z => z.turnOwn (List.getElem?_eq_some_iff.mp e2).1 fun h' a o => o.source) fun _ _ e => e
end

theorem resolve_closed (own : Own) (k : Nat) (d : AV) (h : closed 0 d = true) : Mine.resolve own k d = some d := by
  refine AV.rec (motive_1 := fun d => closed 0 d = true → Mine.resolve own k d = some d) (motive_2 := fun ds => closeds 0 ds = true → Mine.resolves own k ds = some ds) (motive_3 := fun fs => closedF 0 fs = true → Mine.resolveF own k fs = some fs) (motive_4 := fun p => closed 0 p.2 = true → Mine.resolve own k p.2 = some p.2)
    (fun _ => rfl) (fun _ _ => rfl) (fun _ _ => rfl) (fun _ _ => rfl) (fun xs ih h => ?_) (fun xs ih h => ?_) (fun _ _ => rfl) (fun i h => absurd (of_decide_eq_true h) (Nat.not_lt_zero i)) (fun C fs ih h => ?_) (fun fs ih h => ?_) (fun d ih h => ?_) (fun _ _ => rfl)
    (fun _ => rfl) (fun x xs ih1 ih2 h => and_is h fun a b => ?_) (fun _ => rfl) (fun x xs ih1 ih2 h => and_is h fun a b => ?_) (fun _ _ ih => ih) d h
  · exact congrArg (Option.map AV.tup) (ih h)
  · exact congrArg (Option.map AV.lst) (ih h)
  · exact congrArg (Option.map (AV.inst C)) (ih h)
  · exact congrArg (Option.map AV.dct) (ih h)
  · exact congrArg (Option.map AV.clo) (ih h)
  · show (Mine.resolve own k x).bind _ = _
    rw [ih1 a, Option.bind_some, ih2 b]; rfl
  · show (Mine.resolve own k x.2).bind _ = _
    rw [ih1 a, Option.bind_some, ih2 b]; rfl
theorem closeds_get {xs : List AV} (h : closeds 0 xs = true) {i : Nat} {d : AV} (e : xs[i]? = some d) : closed 0 d = true := by
  induction xs generalizing i with
  | nil => exact nn e
  | cons x xs ih =>
    have ⟨h1, h2⟩ := Bool.and_eq_true_iff.mp h
    cases i with
    | zero => exact (Option.some.inj e : x = d) ▸ h1
    | succ i => exact ih h2 e

noncomputable abbrev RA (k : Nat) : Rec := run prA k
noncomputable def onF : Fn := (fnAt 191).getD ⟨[], default, []⟩
noncomputable def onS : Stmt := (onF.body[0]?).getD default
noncomputable def onE : Expr := reE onS
theorem onF_is : fnAt 191 = some onF := by kernel_rfl
theorem onF_b : onF.body = [onS] := by kernel_rfl
theorem onS_is : onS = .Return (some onE) (reP onS) := by kernel_rfl
noncomputable abbrev VO (xs : List AV) : Vars := [(nm "source", .loc 0), (nm "things", .lst xs)]
theorem onF_ps (a b : AV) : onF.params.zip [a, b] = [(nm "source", a), (nm "things", b)] := by kernel_rfl
noncomputable def onC : Expr := suI onE
noncomputable def onL : Expr := caA onC 1
section
variable (xs : List AV) (σ : Src)
theorem on_sub (own : Own) : stepE (RA 19) onF.sc (VO xs) own onE = ((RA 19).e onF.sc (VO xs) own (suO onE)).bind fun a => ((RA 19).e onF.sc (VO xs) a.2 onC).bind fun b => (evGet b.2 a.1 b.1).map fun d => (d, b.2) := by kernel_rfl
theorem on_len (own : Own) : (RA 18).e onF.sc (VO xs) own onL = if xs.length ≤ 100000 then some (.int xs.length, own) else none := by kernel_rfl
theorem on_run (h1 : 1 ≤ xs.length) (h9 : xs.length ≤ 9) (hc : closeds 0 xs = true) {d : AV} (hd : xs[σ.dig xs.length]? = some d) : (RA 22).call (.val (.ref 191)) [.loc 0, .lst xs] [.src σ] = some (d, [.src (σ.nxt xs.length)]) := by
  have hcall : (RA 19).e onF.sc (VO xs) [.src σ] onC = some (.int (.ofNat (σ.dig xs.length)), [.src (σ.nxt xs.length)]) := by
    show stepE (RA 18) onF.sc (VO xs) [.src σ] onC = _
    refine E_call (fe := caF onC) (args := [caA onC 0, onL]) (by kernel_rfl) (g := .val (.ref 184)) (o1 := [.src σ]) (by kernel_rfl) (ds := [.loc 0, .int xs.length]) (o2 := [.src σ]) (es_two' (by kernel_rfl) (by kernel_rfl) (o1 := [.src σ]) (by kernel_rfl) ((on_len xs _).trans (if_pos (Nat.le_trans h9 (by decide))))) ?_
    exact call_prim (callA_take rfl h1 h9)
  have he : (RA 20).e onF.sc (VO xs) [.src σ] onE = some (d, [.src (σ.nxt xs.length)]) := by
    show stepE (RA 19) onF.sc (VO xs) [.src σ] onE = _
    rw [on_sub, show (RA 19).e onF.sc (VO xs) [.src σ] (suO onE) = some (.lst xs, [.src σ]) by kernel_rfl]
    show ((RA 19).e onF.sc (VO xs) [.src σ] onC).bind _ = _
    rw [hcall]
    have lt := (σ.take xs.length h1 h9).1
    show ((if σ.dig xs.length < 100000 then some (σ.dig xs.length) else none).bind fun i => xs[i]?).map _ = _
    rw [if_pos (Nat.lt_of_lt_of_le lt (Nat.le_trans h9 (by decide))), Option.bind_some, hd]; rfl
  show stepCall prA (RA 21) (.val (.ref 191)) [.loc 0, .lst xs] [.src σ] = _
  refine run_call (P := prA) (vs' := VO xs) (own' := [.src (σ.nxt xs.length)]) (d := d) rfl onF_is (by kernel_rfl) (onF_ps _ _) ?_ (resolve_closed _ _ d (closeds_get hc hd)) rfl
  rw [onF_b]
  show stepSs (RA 20) onF.sc (VO xs) [.src σ] [onS] = _
  exact SS_ret (S_ret onS_is (by kernel_rfl) he)
end

noncomputable def drP (f : List AV → Src → Option (AV × Src)) (ds : List AV) (own : Own) : Option (AV × Own) := (unc? ds).bind fun p => (srAt own p.1).bind fun q => (f p.2 q.2).map fun r => (r.1, own.set q.1 (.src r.2))
theorem drP_is {f : List AV → Src → Option (AV × Src)} {i : Nat} {as : List AV} {own : Own} {σ σ' : Src} {d : AV} (h : own[i]? = some (.src σ)) (hf : f as σ = some (d, σ')) : drP f (.loc i :: as) own = some (d, own.set i (.src σ')) := by
  show (srAt own (.loc i)).bind _ = _
  rw [srAt_of h]
  exact congrArg (Option.map _) hf
theorem pAt_dr {a : Nat} {g : AV → List AV → Own → Option (AV × Own)} {f : List AV → Src → Option (AV × Src)} {i : Nat} {as : List AV} {own : Own} {σ σ' : Src} {d : AV} (h : own[i]? = some (.src σ)) (hf : f as σ = some (d, σ')) : pAt a (drP f) g (.val (.ref a)) (.loc i :: as) own = some (d, own.set i (.src σ')) := pAt_is (drP_is h hf)
structure Dr (F : AV → List AV → Own → Option (AV × Own)) (a : Addr) (as : List AV) (σ : Src) (d : AV) (σ' : Src) : Prop where
  args : closeds 0 as = true
  ex : ∃ e, closed 0 e = true ∧ F (.val (.ref a)) (.loc 0 :: as) [.src σ] = some (e, [.src σ']) ∧ ∀ (w : World) (h : Heap) (X μ : List Addr) (v : Value), VR w h X μ e v → VR w h X μ d v
section
variable {w : World} {base : Heap} {mg mb : Str → Option Value} {n : Nat}
theorem dr_ok {F : AV → List AV → Own → Option (AV × Own)} {a : Addr} {f : List AV → Src → Option (AV × Src)} (S : SC w base n F) (hf : ∀ {as σ d σ'}, f as σ = some (d, σ') → Dr F a as σ d σ')
    {X μ : List Addr} {ds : List AV} {own : Own} {d : AV} {own' : Own} {us : List Value} {A : Around} {s : Shared} (h : drP f ds own = some (d, own')) (hA : Room A n) (C : Core w base X μ own s.heap) (rs : VRs w s.heap X μ ds us) : wpAny (model P0 w) A (call (.ref a) us []) (AftC w base X μ s own' d) noE s :=
  bind_any h fun p h1 h => bind_any h fun q h2 h => mp h fun r h3 => by
    obtain ⟨e1, e2⟩ := srAt_is h2
    obtain ⟨ha, e, he, hF, turn⟩ := hf (d := r.1) (σ' := r.2) h3
    rw [unc?_is h1, e1] at rs
    refine rs.consI fun u us r1 rs => ?_
    exact wpAny_mono (frame_at S e2 hF he hA C rfl rfl fun b hb => .cons (r1.loc0 hb) (rs.closed (fun _ e => e) (fun i hi => absurd hi (Nat.not_lt_zero i)) ha)) (fun v s' q => q.turn fun h' r => turn w h' X μ v r) fun _ _ e => e
end

noncomputable def oneF (as : List AV) (σ : Src) : Option (AV × Src) := (one? as).bind fun d => (li? d).bind fun xs => if closeds 0 xs && (decide (1 ≤ xs.length) && decide (xs.length ≤ 9)) then (xs[σ.dig xs.length]?).map fun d => (d, σ.nxt xs.length) else none
theorem oneF_is {σ : Src} {xs : List AV} {d : AV} (h1 : 1 ≤ xs.length) (h9 : xs.length ≤ 9) (hc : closeds 0 xs = true) (hd : xs[σ.dig xs.length]? = some d) : oneF [.lst xs] σ = some (d, σ.nxt xs.length) := by
  refine (if_pos (Bool.and_eq_true_iff.mpr ⟨hc, Bool.and_eq_true_iff.mpr ⟨decide_eq_true h1, decide_eq_true h9⟩⟩)).trans ?_
  rw [hd]; rfl
noncomputable def callB : AV → List AV → Own → Option (AV × Own) := pAt 191 (drP oneF) callA
noncomputable def prB : Prims := ⟨callB, fresh0⟩
theorem calB {w : World} : CalS w callB := .at (keep_prim (by decide)) calA
section
variable {w : World} {base : Heap} {mg mb : Str → Option Value}
theorem scB (G : Gd w base mg mb) : SC w base 45 callB :=
  have S : SC w base 45 (run prA 22).call := (sound_run (P := prA) G (scA G) calA ((sf0 G).up (by decide)) calF0 22).call
  .at ((scA G).up (by decide)) (dr_ok S fun {as σ d σ'} h => by
    refine bind_any h fun a h1 h => bind_any h fun xs h2 h => ite_then h fun hc h => mp h fun d h3 => and_is hc fun hc hn => and_is hn fun h5 h9 => ?_
    rw [one?_is h1, li?_is h2]
    exact ⟨Bool.and_eq_true_iff.mpr ⟨hc, rfl⟩, d, closeds_get hc h3, on_run xs σ (of_decide_eq_true h5) (of_decide_eq_true h9) hc h3, fun _ _ _ _ _ r => r⟩)
end

noncomputable abbrev RB (k : Nat) : Rec := run prB k
noncomputable def tyF : Fn := (fnAt 198).getD ⟨[], default, []⟩
noncomputable def tyS (i : Nat) : Stmt := (tyF.body[i]?).getD default
theorem tyF_is : fnAt 198 = some tyF := by kernel_rfl
theorem tyF_b : tyF.body = [tyS 0, tyS 1, tyS 2] := by kernel_rfl
theorem tyF_ps (a : AV) : tyF.params.zip [a] = [(nm "source", a)] := by kernel_rfl
noncomputable def b9 : List Bs := [.u8, .bool, .never, .never, .unit, .A, .A, .B, .B]
noncomputable def b3 : List Bs := [.u8, .A, .never]
noncomputable def t9 (b c : Bs) : List Ty := [.base b, .base b, .box b, .ref b, .pair b c, .arr b .n0, .arr b .n2, .wrap b, .opt b]
noncomputable abbrev W0 : Vars := [(nm "source", .loc 0)]
noncomputable abbrev W1 (b : AV) : Vars := [(nm "source", .loc 0), (nm "base", b)]
noncomputable abbrev W2 (b c : AV) : Vars := [(nm "source", .loc 0), (nm "base", b), (nm "other", c)]
theorem tyS0 : tyS 0 = .Assign [.Name (nm "base") (naP (asT (tyS 0)))] (asV (tyS 0)) (asP (tyS 0)) := by kernel_rfl
theorem tyS1 : tyS 1 = .Assign [.Name (nm "other") (naP (asT (tyS 1)))] (asV (tyS 1)) (asP (tyS 1)) := by kernel_rfl
theorem tyS2 : tyS 2 = .Return (some (reE (tyS 2))) (reP (tyS 2)) := by kernel_rfl
theorem ty_v0 (own : Own) : (RB 20).rhs tyF.sc W0 own (asV (tyS 0)) = (RB 19).call (.val (.ref 191)) [.loc 0, .lst (b9.map encB)] own := by kernel_rfl
theorem ty_v1 (b : Bs) (own : Own) : (RB 20).rhs tyF.sc (W1 (encB b)) own (asV (tyS 1)) = (RB 19).call (.val (.ref 191)) [.loc 0, .lst (b3.map encB)] own := by kernel_rfl
theorem ty_v2 (b c : Bs) (own : Own) : (RB 20).e tyF.sc (W2 (encB b) (encB c)) own (reE (tyS 2)) = (RB 19).call (.val (.ref 191)) [.loc 0, .lst ((t9 b c).map enc)] own := by kernel_rfl
theorem closeds_map {α : Type} {k : Nat} {f : α → AV} (h : ∀ a, closed k (f a) = true) (l : List α) : closeds k (l.map f) = true := by
  induction l with
  | nil => rfl
  | cons a l ih => exact Bool.and_eq_true_iff.mpr ⟨h a, ih⟩
theorem closeds_encB (bs : List Bs) : closeds 0 (bs.map encB) = true := closeds_map (fun b => closed_enc (.base b)) bs
theorem closeds_enc (ts : List Ty) : closeds 0 (ts.map enc) = true := closeds_map closed_enc ts
theorem one_at {α : Type} (f : α → AV) {σ : Src} {xs : List α} (h1 : 1 ≤ xs.length) (h9 : xs.length ≤ 9) (hc : closeds 0 (xs.map f) = true) : ∃ x, oneF [.lst (xs.map f)] σ = some (f x, σ.nxt xs.length) := by
  have hd := (σ.take xs.length h1 h9).1
  have hl := List.length_map (as := xs) f
  have := oneF_is (σ := σ) (xs := xs.map f) (d := f xs[σ.dig xs.length]) (hl.symm ▸ h1) (hl.symm ▸ h9) hc (by rw [hl, List.getElem?_map, List.getElem?_eq_getElem hd]; rfl)
  rw [hl] at this
  exact ⟨_, this⟩
theorem callB_one {α : Type} (f : α → AV) {i : Nat} {σ : Src} {xs : List α} {own : Own} (h : own[i]? = some (.src σ)) (h1 : 1 ≤ xs.length) (h9 : xs.length ≤ 9) (hc : closeds 0 (xs.map f) = true) : ∃ x, callB (.val (.ref 191)) [.loc i, .lst (xs.map f)] own = some (f x, own.set i (.src (σ.nxt xs.length))) :=
  (one_at f h1 h9 hc).imp fun _ q => pAt_dr (a := 191) (f := oneF) h q
theorem RB_one {α : Type} (f : α → AV) {k i : Nat} {σ : Src} {xs : List α} {own : Own} (h : own[i]? = some (.src σ)) (h1 : 1 ≤ xs.length) (h9 : xs.length ≤ 9) (hc : closeds 0 (xs.map f) = true) : ∃ x, (RB (k + 1)).call (.val (.ref 191)) [.loc i, .lst (xs.map f)] own = some (f x, own.set i (.src (σ.nxt xs.length))) :=
  (callB_one f h h1 h9 hc).imp fun _ q => call_prim (P := prB) q
theorem ty_ex (σ : Src) : ∃ (t : Ty) (σ' : Src), (RB 22).call (.val (.ref 198)) [.loc 0] [.src σ] = some (enc t, [.src σ']) := by
  obtain ⟨b, hb⟩ := RB_one encB (k := 18) (i := 0) (σ := σ) (xs := b9) (own := [.src σ]) rfl (by decide) (by decide) (closeds_encB _)
  obtain ⟨c, hc⟩ := RB_one encB (k := 18) (i := 0) (σ := σ.nxt 9) (xs := b3) (own := [.src (σ.nxt 9)]) rfl (by decide) (by decide) (closeds_encB _)
  obtain ⟨t, ht⟩ := RB_one enc (k := 18) (i := 0) (σ := (σ.nxt 9).nxt 3) (xs := t9 b c) (own := [.src ((σ.nxt 9).nxt 3)]) rfl (show 1 ≤ 9 by decide) (show 9 ≤ 9 by decide) (closeds_enc _)
  refine ⟨t, ((σ.nxt 9).nxt 3).nxt 9, ?_⟩
  refine run_call (P := prB) (R := RB 21) (vs' := W2 (encB b) (encB c)) (own' := [.src (((σ.nxt 9).nxt 3).nxt 9)]) (d := enc t) rfl tyF_is (by kernel_rfl) (tyF_ps _) ?_ (resolve_closed _ _ _ (closed_enc t)) rfl
  rw [tyF_b]
  have s0 : stepS (RB 20) tyF.sc W0 [.src σ] (tyS 0) = some (.next, W1 (encB b), [.src (σ.nxt 9)]) := (S_name tyS0 (by kernel_rfl) (by kernel_rfl) ((ty_v0 _).trans hb)).trans (by kernel_rfl)
  have s1 : stepS (RB 20) tyF.sc (W1 (encB b)) [.src (σ.nxt 9)] (tyS 1) = some (.next, W2 (encB b) (encB c), [.src ((σ.nxt 9).nxt 3)]) := (S_name tyS1 (by kernel_rfl) (by kernel_rfl) ((ty_v1 b _).trans hc)).trans (by kernel_rfl)
  exact (SS_next s0).trans ((SS_next s1).trans (SS_ret (S_ret tyS2 (by kernel_rfl) ((ty_v2 b c _).trans ht))))

noncomputable def Src.typ (σ : Src) : Ty := (ty_ex σ).choose
noncomputable def Src.tnx (σ : Src) : Src := (ty_ex σ).choose_spec.choose
theorem Src.typ_is (σ : Src) : (RB 22).call (.val (.ref 198)) [.loc 0] [.src σ] = some (enc σ.typ, [.src σ.tnx]) := (ty_ex σ).choose_spec.choose_spec

noncomputable def typF (as : List AV) (σ : Src) : Option (AV × Src) := if as.isEmpty then some (.ty σ.typ, σ.tnx) else none
noncomputable def callC : AV → List AV → Own → Option (AV × Own) := pAt 198 (drP typF) callB
noncomputable def prC : Prims := ⟨callC, fresh0⟩
theorem calC {w : World} : CalS w callC := .at (keep_prim (by decide)) calB
section
variable {w : World} {base : Heap} {mg mb : Str → Option Value}
theorem scC (G : Gd w base mg mb) : SC w base 67 callC :=
  have S : SC w base 67 (run prB 22).call := (sound_run (P := prB) G (scB G) calB ((sf0 G).up (by decide)) calF0 22).call
  .at ((scB G).up (by decide)) (dr_ok S fun {as σ d σ'} h => by
    refine ite_then h fun h1 h => sp h ?_
    rw [List.isEmpty_iff.mp h1]
    exact ⟨rfl, _, closed_enc _, σ.typ_is, fun _ _ _ _ _ r => .ty r⟩)
end

section
variable {R : Rec} {sc : Scope} {vs vs' : Vars} {own o1 o2 o3 : Own}
theorem src_rng {a : Expr} {e : Expr} {p q : Pos} {n : Nat} (h : e = .Call (.Name (nm "range") p) [a] [] q) (hn : isTy "range" (evName sc vs (nm "range")) = true) (hes : R.es sc vs own [a] = some ([.int (.ofNat n)], o1)) (hl : n ≤ 1000) : R.src sc vs own e = some (rangeItems n, o1) := by
  have e : rng? (.Call (.Name (nm "range") p) [a] [] q) = some ((nm "range", p), a) := by kernel_rfl
  rw [h, Rec.src, e]
  refine (if_pos hn).trans ?_
  rw [hes]
  exact if_pos hl
theorem compGo_draw {α : Type} {elt : Vars → Own → Option (AV × Own)} {bind : AV → Option Vars} {x : Str} {f : α → AV} {ok : α → Prop} (hb : ∀ d, bind d = some [(x, d)]) (he : ∀ (d : AV) (σ : Src), ∃ (a : α) (σ' : Src), ok a ∧ elt ((x, d) :: vs) [.src σ] = some (f a, [.src σ'])) (ds : List AV) :
    ∀ (σ : Src), ∃ (as : List α) (σ' : Src), as.length = ds.length ∧ (∀ a ∈ as, ok a) ∧ compGo (fun _ own => some (true, own)) elt bind vs ds [.src σ] = some (as.map f, [.src σ']) := by
  induction ds with
  | nil => exact fun σ => ⟨[], σ, rfl, (fun a h => nomatch h), rfl⟩
  | cons d ds ih =>
    intro σ
    obtain ⟨a, σ1, h1, h2⟩ := he d σ
    obtain ⟨as, σ2, h3, h4, h5⟩ := ih σ1
    exact ⟨a :: as, σ2, congrArg (· + 1) h3, List.forall_mem_cons.mpr ⟨h1, h4⟩, (compGo_yes (hb d) rfl h2).trans (by rw [h5]; rfl)⟩
theorem pAt_no {a b : Nat} {g : List AV → Own → Option (AV × Own)} {f : AV → List AV → Own → Option (AV × Own)} {ds : List AV} {r : Option (AV × Own)} (hn : (b == a) = false) (h : f (.val (.ref b)) ds own = r) : pAt a g f (.val (.ref b)) ds own = r :=
  (if_neg (show ¬ (b == a) = true from hn ▸ Bool.false_ne_true)).trans h
end

noncomputable abbrev RC (k : Nat) : Rec := run prC k
noncomputable def vaF : Fn := (fnAt 203).getD ⟨[], default, []⟩
noncomputable def vaS (i : Nat) : Stmt := (vaF.body[i]?).getD default
theorem vaF_is : fnAt 203 = some vaF := by kernel_rfl
theorem vaF_b : vaF.body = [vaS 0, vaS 1] := by kernel_rfl
theorem vaF_ps (a b : AV) : vaF.params.zip [a, b] = [(nm "source", a), (nm "is_enum_here", b)] := by kernel_rfl
noncomputable abbrev U0 (e : Bool) : Vars := [(nm "source", .loc 0), (nm "is_enum_here", .bool e)]
noncomputable abbrev U1 (e : Bool) (m : Nat) : Vars := [(nm "source", .loc 0), (nm "is_enum_here", .bool e), (nm "many", .int (.ofNat m))]
theorem vaS0 : vaS 0 = .Assign [.Name (nm "many") (naP (asT (vaS 0)))] (asV (vaS 0)) (asP (vaS 0)) := by kernel_rfl
theorem vaS1 : vaS 1 = .Return (some (reE (vaS 1))) (reP (vaS 1)) := by kernel_rfl
noncomputable def vaE : Expr := reE (vaS 1)
noncomputable def vaI : Expr := lcE vaE
theorem vaE_is : vaE = .ListComp vaI [lcG vaE] (lcS vaE) (lcP vaE) := by kernel_rfl
theorem vaI_is : vaI = .ListComp (lcE vaI) [lcG vaI] (lcS vaI) (lcP vaI) := by kernel_rfl
noncomputable def vsc1 : Scope := relabelS (lcS vaE) vaF.sc
noncomputable def vsc2 : Scope := relabelS (lcS vaI) vsc1
noncomputable def itE (e : Expr) : Expr := (lcG e).iter
theorem va_it1 : itE vaE = .Call (.Name (nm "range") (naP (caF (itE vaE)))) [caA (itE vaE) 0] [] (exP (itE vaE)) := by kernel_rfl
theorem va_it2 : itE vaI = .Call (.Name (nm "range") (naP (caF (itE vaI)))) [caA (itE vaI) 0] [] (exP (itE vaI)) := by kernel_rfl
theorem va_v0t (own : Own) : (RC 20).rhs vaF.sc (U0 true) own (asV (vaS 0)) = (RC 18).call (.val (.ref 184)) [.loc 0, .int 3] own := by kernel_rfl
theorem va_v0f (own : Own) : (RC 20).rhs vaF.sc (U0 false) own (asV (vaS 0)) = some (.int 1, own) := by kernel_rfl
theorem callC_take {i n : Nat} {σ : Src} {own : Own} (h : own[i]? = some (.src σ)) (h1 : 1 ≤ n) (h9 : n ≤ 9) : callC (.val (.ref 184)) [.loc i, .int n] own = some (.int (.ofNat (σ.dig n)), own.set i (.src (σ.nxt n))) := pAt_no rfl (pAt_no rfl (callA_take h h1 h9))
theorem RC_take {k i n : Nat} {σ : Src} {own : Own} (h : own[i]? = some (.src σ)) (h1 : 1 ≤ n) (h9 : n ≤ 9) : (RC (k + 1)).call (.val (.ref 184)) [.loc i, .int n] own = some (.int (.ofNat (σ.dig n)), own.set i (.src (σ.nxt n))) := call_prim (callC_take h h1 h9)
theorem va_take (d : AV) (own : Own) : (RC 18).e vsc1 [(nm "variant", d), (nm "source", .loc 0)] own (caA (itE vaI) 0) = (RC 17).call (.val (.ref 184)) [.loc 0, .int 3] own := by kernel_rfl
theorem va_elt (d : AV) (σ : Src) : (RC 18).e vsc2 [(nm "turn", d), (nm "source", .loc 0)] [.src σ] (lcE vaI) = some (.ty σ.typ, [.src σ.tnx]) := by kernel_rfl
theorem range_len (n : Nat) : (rangeItems n).length = n := (List.length_map _).trans List.length_range
theorem va_inner (d : AV) (σ : Src) : ∃ (ts : List Ty) (σ' : Src), ts.length ≤ 2 ∧ (RC 19).e vsc1 [(nm "variant", d), (nm "source", .loc 0)] [.src σ] vaI = some (.lst (ts.map .ty), [.src σ']) := by
  have hd := (σ.take 3 (by decide) (by decide)).1
  obtain ⟨ts, σ', hl, _, hg⟩ := compGo_draw (vs := [(nm "source", .loc 0)]) (elt := fun vs own => (RC 18).e vsc2 vs own (lcE vaI)) (bind := evTarget vsc2 (lcG vaI).target) (x := nm "turn") (f := AV.ty) (ok := fun _ => True) (fun d => by kernel_rfl) (fun d σ => ⟨σ.typ, σ.tnx, trivial, va_elt d σ⟩) (rangeItems (σ.dig 3)) (σ.nxt 3)
  have hl' : ts.length ≤ 2 := Nat.le_of_lt_succ ((hl.trans (range_len _)).symm ▸ hd)
  refine ⟨ts, σ', hl', ?_⟩
  show stepE (RC 18) vsc1 [(nm "variant", d), (nm "source", .loc 0)] [.src σ] vaI = _
  refine E_comp vaI_is (comp_all (ds := rangeItems (σ.dig 3)) (o1 := [.src (σ.nxt 3)]) (by kernel_rfl) ?_ (by kernel_rfl) ?_ (Nat.le_trans (Nat.le_of_eq (List.length_map _)) (Nat.le_trans hl' (by decide))))
  · exact src_rng va_it2 (by kernel_rfl) (es_one' (by kernel_rfl) ((va_take d _).trans (RC_take (n := 3) rfl (by decide) (by decide)))) (Nat.le_trans (Nat.le_of_lt hd) (by decide))
  · rw [show compVs vsc1 (lcS vaI) [(nm "variant", d), (nm "source", .loc 0)] = [(nm "source", .loc 0)] by kernel_rfl]
    exact hg
theorem va_many (e : Bool) (m : Nat) (own : Own) : (RC 19).es vaF.sc (U1 e m) own [caA (itE vaE) 0] = some ([.int (.ofNat m)], own) := by kernel_rfl
theorem va_outer (e : Bool) (m : Nat) (hm : m ≤ 2) (σ : Src) : ∃ (ws : List (List Ty)) (σ' : Src), ws.length = m ∧ (∀ v ∈ ws, v.length ≤ 2) ∧ (RC 20).e vaF.sc (U1 e m) [.src σ] vaE = some (tyL ws, [.src σ']) := by
  obtain ⟨ws, σ', hl, hok, hg⟩ := compGo_draw (vs := [(nm "source", .loc 0)]) (elt := fun vs own => (RC 19).e vsc1 vs own vaI) (bind := evTarget vsc1 (lcG vaE).target) (x := nm "variant") (f := fun ts : List Ty => AV.lst (ts.map .ty)) (ok := fun ts => ts.length ≤ 2) (fun d => by kernel_rfl) (fun d σ => va_inner d σ) (rangeItems m) σ
  have hl' : ws.length = m := hl.trans (range_len _)
  refine ⟨ws, σ', hl', hok, ?_⟩
  show stepE (RC 19) vaF.sc (U1 e m) [.src σ] vaE = _
  refine E_comp vaE_is (comp_all (ds := rangeItems m) (o1 := [.src σ]) (by kernel_rfl) ?_ (by kernel_rfl) ?_ (Nat.le_trans (Nat.le_of_eq ((List.length_map _).trans hl')) (Nat.le_trans hm (by decide))))
  · exact src_rng va_it1 (by kernel_rfl) (va_many e m _) (Nat.le_trans hm (by decide))
  · rw [show compVs vaF.sc (lcS vaE) (U1 e m) = [(nm "source", .loc 0)] by kernel_rfl]
    exact hg

theorem closed_tyL (ws : List (List Ty)) : closed 0 (tyL ws) = true := (good_tyL ws).closed
theorem va_ex (σ : Src) (e : Bool) : ∃ (ws : List (List Ty)) (σ' : Src), shapeOk e ws ∧ (RC 22).call (.val (.ref 203)) [.loc 0, .bool e] [.src σ] = some (tyL ws, [.src σ']) := by
  have first : ∃ (m : Nat) (σ1 : Src), m ≤ 2 ∧ (e = false → m = 1) ∧ stepS (RC 20) vaF.sc (U0 e) [.src σ] (vaS 0) = some (.next, U1 e m, [.src σ1]) := by
    cases e with
    | false => exact ⟨1, σ, by decide, fun _ => rfl, (S_name vaS0 (by kernel_rfl) (by kernel_rfl) (va_v0f _)).trans (by kernel_rfl)⟩
    | true => exact ⟨σ.dig 3, σ.nxt 3, Nat.le_of_lt_succ (σ.take 3 (by decide) (by decide)).1, (fun h => nomatch h), (S_name vaS0 (by kernel_rfl) (by kernel_rfl) ((va_v0t _).trans (RC_take (n := 3) rfl (by decide) (by decide)))).trans (by kernel_rfl)⟩
  obtain ⟨m, σ1, hm, hm1, h0⟩ := first
  obtain ⟨ws, σ2, hl, hok, ho⟩ := va_outer e m hm σ1
  refine ⟨ws, σ2, ⟨?_, hok⟩, ?_⟩
  · cases e with
    | false => exact hl.trans (hm1 rfl)
    | true => exact (hl ▸ hm : ws.length ≤ 2)
  · refine run_call (P := prC) (R := RC 21) (vs' := U1 e m) (own' := [.src σ2]) (d := tyL ws) rfl vaF_is (by kernel_rfl) (vaF_ps _ _) ?_ (resolve_closed _ _ _ (closed_tyL ws)) rfl
    rw [vaF_b]
    exact (SS_next h0).trans (SS_ret (S_ret vaS1 (by kernel_rfl) ho))
noncomputable def Src.vrs (σ : Src) (e : Bool) : List (List Ty) := (va_ex σ e).choose
noncomputable def Src.vnx (σ : Src) (e : Bool) : Src := (va_ex σ e).choose_spec.choose
theorem Src.vrs_is (σ : Src) (e : Bool) : shapeOk e (σ.vrs e) ∧ (RC 22).call (.val (.ref 203)) [.loc 0, .bool e] [.src σ] = some (tyL (σ.vrs e), [.src (σ.vnx e)]) := (va_ex σ e).choose_spec.choose_spec

noncomputable def vrF (as : List AV) (σ : Src) : Option (AV × Src) := (one? as).bind fun d => (bl? d).map fun e => (tyL (σ.vrs e), σ.vnx e)
noncomputable def callD : AV → List AV → Own → Option (AV × Own) := pAt 203 (drP vrF) callC
theorem calD {w : World} : CalS w callD := .at (keep_prim (by decide)) calC
section
variable {w : World} {base : Heap} {mg mb : Str → Option Value}
theorem scD (G : Gd w base mg mb) : SC w base 89 callD :=
  have S : SC w base 89 (run prC 22).call := (sound_run (P := prC) G (scC G) calC ((sf0 G).up (by decide)) calF0 22).call
  .at ((scC G).up (by decide)) (dr_ok S fun {as σ d σ'} h => by
    refine bind_any h fun a h1 h => mp h fun e h2 => ?_
    rw [one?_is h1, bl?_is h2]
    exact ⟨rfl, _, closed_tyL _, (σ.vrs_is e).2, fun _ _ _ _ _ r => r⟩)
end

noncomputable def ieF : Fn := (fnAt 222).getD ⟨[], default, []⟩
noncomputable def ieS (i : Nat) : Stmt := (ieF.body[i]?).getD default
theorem ieF_is : fnAt 222 = some ieF := by kernel_rfl
theorem ieF_ps (a b : AV) : ieF.params.zip [a, b] = [(nm "t", a), (nm "empties", b)] := by kernel_rfl
theorem ieF_b : ieF.body = [ieS 0, ieS 1, ieS 2] := by kernel_rfl
theorem ieW_is : ieS 1 = .While (whT (ieS 1)) (whB (ieS 1)) [] (whP (ieS 1)) := by kernel_rfl
noncomputable abbrev IV (T N : AV) : Vars := [(nm "t", T), (nm "empties", N), (nm "left", .loc 0)]
noncomputable abbrev IH (T N d : AV) : Vars := [(nm "t", T), (nm "empties", N), (nm "left", .loc 0), (nm "here", d)]
noncomputable abbrev ieT : Vars → Own → Option (Bool × Own) := fun vs own => (R0 38).t ieF.sc vs own (whT (ieS 1))
noncomputable abbrev ieB : Vars → Own → Option (Fl × Vars × Own) := fun vs own => (R0 38).ss ieF.sc vs own (whB (ieS 1))
noncomputable def isBs : Ty → Bool
  | .base _ => true
  | _ => false
noncomputable def nxt : Ty → List Bs
  | .box b => [b]
  | .ref b => [b]
  | .pair b c => [b, c]
  | .arr _ .n0 => []
  | .arr b _ => [b]
  | .wrap b => [b]
  | _ => []
section
variable (T N d : AV) (own : Own) (b c : Bs)
theorem ie_0 : stepS (R0 38) ieF.sc [(nm "t", T), (nm "empties", N)] [] (ieS 0) = some (.next, IV T N, [.lst [T]]) := by kernel_rfl
theorem ie_2 (vs : Vars) : stepS (R0 38) ieF.sc vs own (ieS 2) = some (.ret (.bool false), vs, own) := by kernel_rfl
theorem ie_t : ieT (IV T N) own = (evCmp own .NotEq (.loc 0) (.lst [])).map fun c => (c, own) := by
  have : ieT (IV T N) own = (((evCmp own .NotEq (.loc 0) (.lst [])).map fun c => (AV.bool c, own)).bind fun r => (bl? r.1).map fun b => (b, r.2)) := by kernel_rfl
  rw [this]
  cases evCmp own .NotEq (.loc 0) (.lst []) <;> rfl
theorem ie_box : ieB (IV T N) [.lst [enc (.box b)]] = some (.next, IH T N (enc (.box b)), [.lst [encB b]]) := by kernel_rfl
theorem ie_ref : ieB (IV T N) [.lst [enc (.ref b)]] = some (.next, IH T N (enc (.ref b)), [.lst [encB b]]) := by kernel_rfl
theorem ie_pair : ieB (IV T N) [.lst [enc (.pair b c)]] = some (.next, IH T N (enc (.pair b c)), [.lst [encB b, encB c]]) := by kernel_rfl
theorem ie_arr0 : ieB (IV T N) [.lst [enc (.arr b .n0)]] = some (.next, IH T N (enc (.arr b .n0)), [.lst []]) := by kernel_rfl
theorem ie_arr1 : ieB (IV T N) [.lst [enc (.arr b .n1)]] = some (.next, IH T N (enc (.arr b .n1)), [.lst [encB b]]) := by kernel_rfl
theorem ie_arr2 : ieB (IV T N) [.lst [enc (.arr b .n2)]] = some (.next, IH T N (enc (.arr b .n2)), [.lst [encB b]]) := by kernel_rfl
theorem ie_param : ieB (IV T N) [.lst [enc .param]] = some (.next, IH T N (enc .param), [.lst []]) := by kernel_rfl
theorem ie_wrap : (nmLs.map fun l => ieB (IV T (nmL l)) [.lst [enc (.wrap b)]]) = nmLs.map fun l => some (.next, IH T (nmL l) (enc (.wrap b)), [.lst [encB b]]) := by kernel_rfl
theorem ie_opt : (nmLs.map fun l => ieB (IV T (nmL l)) [.lst [enc (.opt b)]]) = nmLs.map fun l => some (.next, IH T (nmL l) (enc (.opt b)), [.lst []]) := by kernel_rfl
noncomputable abbrev ieFl (l : List Bool) (b : Bs) : Fl := cond (empB (l.contains true) (l.contains false) b) (.ret (.bool true)) .next
theorem ie_b0 : (nmLs.map fun l => allB.map fun b => ieB (IV T (nmL l)) [.lst [encB b]]) = nmLs.map fun l => allB.map fun b => some (ieFl l b, IH T (nmL l) (encB b), [.lst []]) := by kernel_rfl
theorem ie_b1 : (nmLs.map fun l => allB.map fun b => ieB (IV T (nmL l)) [.lst [d, encB b]]) = nmLs.map fun l => allB.map fun b => some (ieFl l b, IH T (nmL l) (encB b), [.lst [d]]) := by kernel_rfl
end
theorem norm_enc (t : Ty) : (enc t).norm = enc t := by
  cases t <;> first | rfl | (rename_i b; cases b <;> rfl) | (rename_i b c; cases b <;> cases c <;> rfl)
theorem norms_enc (ts : List Ty) : AV.norms (ts.map enc) = ts.map enc := by
  induction ts with
  | nil => rfl
  | cons t ts ih => exact (congrArg (· :: _) (norm_enc t)).trans (congrArg (_ :: ·) ih)
section
variable {l : List Bool} (hl : l ∈ nmLs) (t : Ty)
theorem ie_tst (T N : AV) (ts : List Ty) : ieT (IV T N) [.lst (ts.map enc)] = some (!ts.isEmpty, [.lst (ts.map enc)]) := by
  rw [ie_t, (cmp_nil (own := [.lst (ts.map enc)]) (a := .loc 0) (congrArg AV.lst (norms_enc ts)) (plains_enc ts).1).1, map_isEmpty]; rfl
include hl
theorem ie_comp (T : AV) (h : isBs t = false) : ieB (IV T (nmL l)) [.lst [enc t]] = some (.next, IH T (nmL l) (enc t), [.lst ((nxt t).map encB)]) := by
  cases t with
  | base b => exact nomatch h
  | box b => exact ie_box T (nmL l) b
  | ref b => exact ie_ref T (nmL l) b
  | pair b c => exact ie_pair T (nmL l) b c
  | arr b n =>
    cases n with
    | n0 => exact ie_arr0 T (nmL l) b
    | n1 => exact ie_arr1 T (nmL l) b
    | n2 => exact ie_arr2 T (nmL l) b
  | wrap b => exact List.map_inj_left.mp (ie_wrap T b) l hl
  | opt b => exact List.map_inj_left.mp (ie_opt T b) l hl
  | param => exact ie_param T (nmL l)
theorem ie_base0 (T : AV) (b : Bs) : ieB (IV T (nmL l)) [.lst [encB b]] = some (ieFl l b, IH T (nmL l) (encB b), [.lst []]) := List.map_inj_left.mp (List.map_inj_left.mp (ie_b0 T) l hl) b (mem_allB b)
theorem ie_base1 (T d : AV) (b : Bs) : ieB (IV T (nmL l)) [.lst [d, encB b]] = some (ieFl l b, IH T (nmL l) (encB b), [.lst [d]]) := List.map_inj_left.mp (List.map_inj_left.mp (ie_b1 T d) l hl) b (mem_allB b)
end
noncomputable def Emp (r : Option (Fl × Vars × Own)) (b : Bool) : Prop := ∃ vs' own', r = some (cond b (.ret (.bool true)) .next, vs', own')
theorem Emp.of {r r' : Option (Fl × Vars × Own)} {b : Bool} (e : r = r') (h : Emp r' b) : Emp r b := e ▸ h
section
variable {l : List Bool} (hl : l ∈ nmLs) (t : Ty) {n : Nat}
noncomputable abbrev eb (l : List Bool) (b : Bs) : Bool := empB (l.contains true) (l.contains false) b
theorem no_cloI (t u : Ty) : (!isClo (enc t) && (!isClo (nmL l) && (!isClo (.loc 0) && (!isClo (enc u) && true)))) = true := by rw [isClo_enc, isClo_enc]; rfl
theorem ie_end : Emp (whileGo ieT ieB (n + 1) (IV (enc t) (nmL l)) [.lst []]) false := ⟨_, _, while_stop (ie_tst _ _ [])⟩
include hl
theorem ie_l1 (b : Bs) : Emp (whileGo ieT ieB (n + 2) (IV (enc t) (nmL l)) [.lst [encB b]]) (eb l b) := by
  have hb := ie_base0 hl (enc t) b
  cases h : eb l b with
  | true =>
    rw [show ieFl l b = .ret (.bool true) from congrArg (cond · _ _) h] at hb
    exact ⟨_, _, while_ret (ie_tst _ _ [.base b]) hb⟩
  | false =>
    rw [show ieFl l b = .next from congrArg (cond · _ _) h] at hb
    have e := while_next (n := n + 1) (ie_tst (enc t) (nmL l) [.base b]) hb (no_cloI t (.base b))
    exact .of e (ie_end t)
theorem ie_l2 (b c : Bs) : Emp (whileGo ieT ieB (n + 3) (IV (enc t) (nmL l)) [.lst [encB b, encB c]]) (eb l b || eb l c) := by
  have hb := ie_base1 hl (enc t) (encB b) c
  cases h : eb l c with
  | true =>
    rw [show ieFl l c = .ret (.bool true) from congrArg (cond · _ _) h] at hb
    rw [Bool.or_true]
    exact ⟨_, _, while_ret (ie_tst _ _ [.base b, .base c]) hb⟩
  | false =>
    rw [show ieFl l c = .next from congrArg (cond · _ _) h] at hb
    have e := while_next (n := n + 2) (ie_tst (enc t) (nmL l) [.base b, .base c]) hb (no_cloI t (.base c))
    rw [Bool.or_false]
    exact .of e (ie_l1 hl t b)
theorem ie_all : Emp (whileGo ieT ieB (n + 4) (IV (enc t) (nmL l)) [.lst [enc t]]) (empT (l.contains true) (l.contains false) t) := by
  have go (h : isBs t = false) := while_next (n := n + 3) (ie_tst (enc t) (nmL l) [t]) (ie_comp hl t (enc t) h) (no_cloI t t)
  cases t with
  | base b => exact ie_l1 hl (.base b) b
  | box b => exact .of (go rfl) (ie_l1 hl _ b)
  | ref b => exact .of (go rfl) (ie_l1 hl _ b)
  | pair b c => exact .of (go rfl) (ie_l2 hl _ b c)
  | arr b n => 
    cases n with
    | n0 => exact .of (go rfl) (ie_end _)
    | n1 => exact .of (go rfl) (ie_l1 hl _ b)
    | n2 => exact .of (go rfl) (ie_l1 hl _ b)
  | wrap b => exact .of (go rfl) (ie_l1 hl _ b)
  | opt b => exact .of (go rfl) (ie_end _)
  | param => exact .of (go rfl) (ie_end _)
theorem f_empty : unitCall pr0 40 222 [enc t, nmL l] = some (.bool (empT (l.contains true) (l.contains false) t), []) := by
  obtain ⟨vs', own', e⟩ := ie_all (n := 99996) hl t
  have s1 : stepS (R0 38) ieF.sc (IV (enc t) (nmL l)) [.lst [enc t]] (ieS 1) = some (cond (empT (l.contains true) (l.contains false) t) (.ret (.bool true)) .next, vs', own') := (while_eq ieW_is (by show (isClo (enc t) || false) = false; rw [isClo_enc]; rfl)).trans e
  have hb : (R0 39).ss ieF.sc [(nm "t", enc t), (nm "empties", nmL l)] [] ieF.body = some (.ret (.bool (empT (l.contains true) (l.contains false) t)), vs', own') := by
    rw [ieF_b]
    refine (SS_next (R := R0 38) (ie_0 _ _)).trans ?_
    cases h : empT (l.contains true) (l.contains false) t with
    | true => rw [h] at s1; exact SS_ret s1
    | false => rw [h] at s1; exact (SS_next s1).trans (SS_ret (ie_2 _ _))
  exact run_call (P := pr0) (R := R0 39) rfl ieF_is (by kernel_rfl) (ieF_ps _ _) hb rfl rfl
end

noncomputable def deP (g : Ty → List AV → Option AV) (ds : List AV) (own : Own) : Option (AV × Own) := (unc? ds).bind fun q => (decT q.1).bind fun t => (g t q.2).map fun d => (d, own)
theorem deP_is {g : Ty → List AV → Option AV} {x : AV} {t : Ty} {rest : List AV} {d : AV} {own : Own} (hx : decT x = some t) (h : g t rest = some d) : deP g (x :: rest) own = some (d, own) := by
  show (decT x).bind _ = _
  rw [hx, Option.bind_some, h]; rfl
structure De (F : AV → List AV → Own → Option (AV × Own)) (a : Addr) (t : Ty) (rest : List AV) (d : AV) : Prop where
  args : closeds 0 rest = true
  ex : ∃ x e, closed 0 x = true ∧ closed 0 e = true ∧ F (.val (.ref a)) (x :: rest) [] = some (e, []) ∧ ∀ (w : World) (h : Heap) (X μ : List Addr) (v : Value), (VR w h X μ (enc t) v → VR w h X μ x v) ∧ (VR w h X μ e v → VR w h X μ d v)
section
variable {w : World} {base : Heap} {mg mb : Str → Option Value} {n : Nat}
theorem de_ok {F : AV → List AV → Own → Option (AV × Own)} {a : Addr} {g : Ty → List AV → Option AV} (S : SC w base n F) (hg : ∀ {t rest d}, g t rest = some d → De F a t rest d)
    {X μ : List Addr} {ds : List AV} {own : Own} {d : AV} {own' : Own} {us : List Value} {A : Around} {s : Shared} (h : deP g ds own = some (d, own')) (hA : Room A n) (C : Core w base X μ own s.heap) (rs : VRs w s.heap X μ ds us) : wpAny (model P0 w) A (call (.ref a) us []) (AftC w base X μ s own' d) noE s :=
  bind_any h fun p h1 h => bind_any h fun t h2 h => mp h fun r h3 => by
    obtain ⟨hc, x, e, hx, he, hF, turn⟩ := hg h3
    rw [unc?_is h1] at rs
    refine rs.consI fun u us r1 rs => ?_
    exact wpAny_mono (call_frame S hF rfl (Bool.and_eq_true_iff.mpr ⟨hx, hc⟩) hA C (.val _) (.cons ((turn w _ X μ u).1 (vr_dec h2 r1)) rs)) (fun v s' q => q.turn fun h' r => (turn w h' X μ v).2 r) fun _ _ e => e
end
theorem pAt_skip {a : Nat} {g : List AV → Own → Option (AV × Own)} {f : AV → List AV → Own → Option (AV × Own)} {ds : List AV} {own : Own} {r : Option (AV × Own)} (hg : g ds own = none) (h : f (.val (.ref a)) ds own = r) : pAt a g f (.val (.ref a)) ds own = r := by
  refine (if_pos (beq_self_eq_true _)).trans ?_
  rw [hg]
  exact h

noncomputable def nmOf (rest : List AV) : Option (List Bool) := nmLs.find? fun l => AV.sames rest [nmL l]
theorem nmOf_is {rest : List AV} {l : List Bool} (h : nmOf rest = some l) : rest = [nmL l] ∧ l ∈ nmLs := ⟨AV.sames_eq (List.find?_some (p := fun l => AV.sames rest [nmL l]) h), List.mem_of_find?_eq_some h⟩
noncomputable def empG (t : Ty) (rest : List AV) : Option AV := (nmOf rest).map fun l => .bool (empT (l.contains true) (l.contains false) t)
theorem closed_nmL (l : List Bool) : closed 0 (nmL l) = true := closeds_map (fun _ => rfl) l
theorem closed_encL (ws : List (List Ty)) : closed 0 (encL ws) = true := closeds_map (f := fun w : List Ty => AV.lst (w.map enc)) (fun w => closeds_enc w) ws
theorem emp_de {t : Ty} {rest : List AV} {d : AV} (h : empG t rest = some d) : De (run pr0 40).call 222 t rest d := mo h fun l q => by
  obtain ⟨e, hl⟩ := nmOf_is q
  rw [e]
  exact ⟨Bool.and_eq_true_iff.mpr ⟨closed_nmL l, rfl⟩, enc t, _, closed_enc t, rfl, f_empty hl t, fun _ _ _ _ _ => ⟨id, id⟩⟩

noncomputable def asOf (x : String) (e : Bool) (ws : List (List Ty)) : List AV := [sv x, .tup [], tyL ws, .bool e]
noncomputable abbrev adtW : AV := adtAV (sv "W") (.tup [sv "T"]) (rowsAV [[enc .param]]) false
noncomputable abbrev adtO : AV := adtAV (sv "O") (.tup [sv "T"]) (rowsAV [[], [enc .param]]) true
noncomputable abbrev Decl.aA (D : Decl) : AV := adtAV (sv "A") (.tup []) (rowsT D.wA) D.eA
noncomputable abbrev Decl.aB (D : Decl) : AV := adtAV (sv "B") (.tup []) (rowsT D.wB) D.eB
noncomputable def callE (D : Decl) : AV → List AV → Own → Option (AV × Own) := pAt 222 (deP empG) (pAt 208 (eqP (asOf "A" D.eA D.wA) D.aA) (pAt 208 (eqP (asOf "B" D.eB D.wB) D.aB)
  (pAt 208 (eqP [sv "W", .tup [sv "T"], encL [[.param]], .bool false] adtW) (pAt 208 (eqP [sv "O", .tup [sv "T"], encL [[], [.param]], .bool true] adtO) call0))))
noncomputable def prE (D : Decl) : Prims := ⟨callE D, fresh0⟩
theorem calE {w : World} (D : Decl) : CalS w (callE D) := .at (keep_prim (by decide)) (.at (keep_prim (by decide)) (.at (keep_prim (by decide)) (.at (keep_prim (by decide)) (.at (keep_prim (by decide)) cal0))))
theorem good_as (x : String) (e : Bool) (ws : List (List Ty)) : Goods (asOf x e ws) := good_cons (good_str _) (good_cons (good_tup good_nil) (good_cons (good_tyL ws) (good_cons (good_bool e) good_nil)))
section
variable {w : World} {base : Heap} {mg mb : Str → Option Value}
theorem scE (G : Gd w base mg mb) (D : Decl) (hD : D.Ok) : SC w base 41 (callE D) :=
  have S : SC w base 41 (run pr0 40).call := (sound_run (P := pr0) G (sc0 G) cal0 (sf0 G) calF0 40).call
  .at (.at (.at (.at (.at ((sc0 G).up (by decide)) (ex_ok S f_adt_O (by kernel_rfl))) (ex_ok S f_adt_W (by kernel_rfl))) (ex_ok S (f_adt_B D.eB D.wB hD.b.le hD.b.2) (good_as "B" _ _).closed)) (ex_ok S (f_adt_A D.eA D.wA hD.a.le hD.a.2) (good_as "A" _ _).closed)) (de_ok S emp_de)
end
theorem eqP_is {as : List AV} {r : AV} {own : Own} (h : Goods as) : eqP as r as own = some (r, own) := if_pos h.same
theorem callE_A (D : Decl) (own : Own) : callE D (.val (.ref 208)) (asOf "A" D.eA D.wA) own = some (D.aA, own) := pAt_no rfl (pAt_is (eqP_is (good_as ..)))
theorem callE_B (D : Decl) (own : Own) : callE D (.val (.ref 208)) (asOf "B" D.eB D.wB) own = some (D.aB, own) := by
  have e : AV.sames (asOf "A" D.eA D.wA) (asOf "B" D.eB D.wB) = false := by kernel_rfl
  exact pAt_no rfl (pAt_skip (if_neg (e ▸ Bool.false_ne_true)) (pAt_is (eqP_is (good_as ..))))

noncomputable abbrev RE (D : Decl) (k : Nat) : Rec := run (prE D) k
noncomputable abbrev toldO (eA eB : Bool) (a b : AV) : OD := .sdct [(nm "A", .tup [.bool eA, a]), (nm "B", .tup [.bool eB, b])]

noncomputable def wyF : Fn := (fnAt 241).getD ⟨[], default, []⟩
theorem wyF_is : fnAt 241 = some wyF := by kernel_rfl
theorem wyF_ps (a b : AV) : wyF.params.zip [a, b] = [(nm "t", a), (nm "told", b)] := by kernel_rfl
noncomputable abbrev wyV (t : Ty) : Vars := [(nm "t", enc t), (nm "told", .loc 0)]
theorem wy_other (eA eB : Bool) (a b : AV) : ((allT.filter fun t => !isAB t).map fun t => (R0 40).ss wyF.sc (wyV t) [toldO eA eB a b] wyF.body) =
    (allT.filter fun t => !isAB t).map fun t => some (.ret (encL (waysT [] [] t)), wyV t, [toldO eA eB a b]) := by kernel_rfl
theorem wy_A (eA eB : Bool) (a b : AV) : (R0 40).ss wyF.sc (wyV (.base .A)) [toldO eA eB a b] wyF.body = some (.ret a, wyV (.base .A), [toldO eA eB a b]) := by kernel_rfl
theorem wy_B (eA eB : Bool) (a b : AV) : (R0 40).ss wyF.sc (wyV (.base .B)) [toldO eA eB a b] wyF.body = some (.ret b, wyV (.base .B), [toldO eA eB a b]) := by kernel_rfl
noncomputable abbrev Decl.toldO (D : Decl) : OD := Mine.toldO D.eA D.eB (tyL D.wA) (tyL D.wB)
theorem closed_told (D : Decl) (k : Nat) : closedOD k D.toldO = true := by
  have h : ∀ ws, closed k (tyL ws) = true := closeds_map (f := fun w : List Ty => AV.lst (w.map .ty)) fun w => closeds_map (fun _ => rfl) w
  show ((true && (closed k (tyL D.wA) && true)) && ((true && (closed k (tyL D.wB) && true)) && true)) = true
  rw [h, h]; rfl
theorem told_kept (D : Decl) (r : Own) : ((D.toldO :: r).take 1).all (closedOD 1) = true := Bool.and_eq_true_iff.mpr ⟨closed_told D 1, rfl⟩
noncomputable def Tw (F : AV → List AV → Own → Option (AV × Own)) (a : Addr) (D : Decl) (x d : AV) : Prop := ∃ e, closed 0 x = true ∧ closed 0 e = true ∧ F (.val (.ref a)) [x, .loc 0] [D.toldO] = some (e, [D.toldO]) ∧ ∀ (w : World) (h : Heap) (X μ : List Addr) (v : Value), VR w h X μ e v → VR w h X μ d v
theorem wy_run (D : Decl) (t : Ty) : Tw (R0 41).call 241 D (enc t) (tyL (D.ways t)) := by
  have key : ∀ x : AV, closed 0 x = true → (∀ (w : World) (h : Heap) (X μ : List Addr) (v : Value), VR w h X μ x v → VR w h X μ (tyL (D.ways t)) v) → (R0 40).ss wyF.sc (wyV t) [D.toldO] wyF.body = some (.ret x, wyV t, [D.toldO]) → Tw (R0 41).call 241 D (enc t) (tyL (D.ways t)) := fun x hx up h =>
    ⟨x, closed_enc t, hx, run_call (P := pr0) (R := R0 40) (own' := [D.toldO]) (d := x) rfl wyF_is (by kernel_rfl) (wyF_ps _ _) h (resolve_closed _ _ _ hx) (told_kept D []), up⟩
  cases hab : isAB t with
  | false =>
    have h := List.map_inj_left.mp (wy_other D.eA D.eB (tyL D.wA) (tyL D.wB)) t (List.mem_filter.mpr ⟨mem_allT t, by rw [hab]; rfl⟩)
    rw [ways_out D.wA D.wB hab] at h
    exact key _ (closed_encL _) (fun _ _ _ _ _ r => vr_tyL r) h
  | true =>
    rcases ways_ab hab with q | q
    · rw [q] at key ⊢
      exact key _ (closed_tyL _) (fun _ _ _ _ _ r => r) (wy_A D.eA D.eB (tyL D.wA) (tyL D.wB))
    · rw [q] at key ⊢
      exact key _ (closed_tyL _) (fun _ _ _ _ _ r => r) (wy_B D.eA D.eB (tyL D.wA) (tyL D.wB))

noncomputable def lwF : Fn := (fnAt 215).getD ⟨[], default, []⟩
noncomputable def lwS (i : Nat) : Stmt := (lwF.body[i]?).getD default
theorem lwF_is : fnAt 215 = some lwF := by kernel_rfl
theorem lwF_ps (a : AV) : lwF.params.zip [a] = [(nm "told", a)] := by kernel_rfl
theorem lwF_b : lwF.body = [lwS 0, lwS 1, lwS 2, lwS 3, lwS 4] := by kernel_rfl
noncomputable abbrev wI : AV := worldOf (.loc 1)
noncomputable abbrev X0 : Vars := [(nm "told", .loc 0)]
noncomputable abbrev X1 : Vars := [(nm "told", .loc 0), (nm "world", wI)]
noncomputable abbrev X2 (n : AV) : Vars := [(nm "told", .loc 0), (nm "world", wI), (nm "name", n)]
noncomputable def lwB : Stmt := ((foB (lwS 1))[0]?).getD default
theorem lwS1_is : lwS 1 = .For (.Name (nm "name") (foQ (lwS 1))) (foI (lwS 1)) [lwB] [] (foP (lwS 1)) := by kernel_rfl
theorem lwB_is : lwB = .Assign [.Subscript (suO (asT lwB)) (suI (asT lwB)) (suP (asT lwB))] (asV lwB) (asP lwB) := by kernel_rfl
noncomputable abbrev lwT : Expr := .Subscript (suO (asT lwB)) (suI (asT lwB)) (suP (asT lwB))
section
variable (D : Decl) (eA eB : Bool) (a b dA dB : AV) (o : OD)
theorem lw_0 : stepS (RE D 20) lwF.sc X0 [o] (lwS 0) = some (.next, X1, [o, .dct []]) := by kernel_rfl
theorem lw_src (own : Own) : (RE D 20).src lwF.sc X1 own (foI (lwS 1)) = some ([sv "A", sv "B"], own) := by kernel_rfl
theorem lw_vA : (RE D 19).e lwF.sc (X2 (sv "A")) [toldO eA eB a b, o] (asV lwB) = (RE D 18).call (.val (.ref 208)) [sv "A", .tup [], a, .bool eA] [toldO eA eB a b, o] := by kernel_rfl
theorem lw_vB : (RE D 19).e lwF.sc (X2 (sv "B")) [toldO eA eB a b, o] (asV lwB) = (RE D 18).call (.val (.ref 208)) [sv "B", .tup [], b, .bool eB] [toldO eA eB a b, o] := by kernel_rfl
theorem lw_pA : (RE D 19).put lwF.sc (X2 (sv "A")) [o, .dct []] lwT dA = some (X2 (sv "A"), [o, .sdct [(nm "A", dA)]]) := by kernel_rfl
theorem lw_pB : (RE D 19).put lwF.sc (X2 (sv "B")) [o, .sdct [(nm "A", dA)]] lwT dB = some (X2 (sv "B"), [o, .sdct [(nm "A", dA), (nm "B", dB)]]) := by kernel_rfl
theorem lw_2 : stepS (RE D 20) lwF.sc X1 [o, .sdct [(nm "A", dA), (nm "B", dB)]] (lwS 2) = some (.next, X1, [o, .sdct [(nm "A", dA), (nm "B", dB), (nm "W", adtW)]]) := by kernel_rfl
theorem lw_3 : stepS (RE D 20) lwF.sc X1 [o, .sdct [(nm "A", dA), (nm "B", dB), (nm "W", adtW)]] (lwS 3) = some (.next, X1, [o, .sdct [(nm "A", dA), (nm "B", dB), (nm "W", adtW), (nm "O", adtO)]]) := by kernel_rfl
theorem lw_4 (own : Own) : stepS (RE D 20) lwF.sc X1 own (lwS 4) = some (.ret wI, X1, own) := by kernel_rfl
theorem lw_set (n : AV) : setV (nm "name") n X1 = X2 n := by kernel_rfl
end
theorem resolve_world {own : Own} {k : Nat} {d e : AV} (h : Mine.resolve own k d = some e) : Mine.resolve own k (worldOf d) = some (worldOf e) := by
  show (Option.bind (some AV.none) fun x => Option.map (fun ds => (Str.ofString "modules", x) :: ds) ((Mine.resolve own k d).bind fun y => Option.map (fun ds => (Str.ofString "adts", y) :: ds) (Mine.resolveF own k [(Str.ofString "variants", .dct []), (Str.ofString "sigs", .dct []), (Str.ofString "traits", .dct []), (Str.ofString "impls", .lst []), (Str.ofString "consts", .dct []), (Str.ofString "bodies", .dct [])]))).map (AV.inst 166) = _
  rw [h]; rfl
noncomputable abbrev Decl.adts (D : Decl) : List (Str × AV) := [(nm "A", D.aA), (nm "B", D.aB), (nm "W", adtW), (nm "O", adtO)]
theorem lw_run (D : Decl) : (RE D 22).call (.val (.ref 215)) [.loc 0] [D.toldO] = some (D.world, [D.toldO]) := by
  have bA : (RE D 20).ss lwF.sc (setV (nm "name") (sv "A") X1) [D.toldO, .dct []] [lwB] = some (.next, X2 (sv "A"), [D.toldO, .sdct [(nm "A", D.aA)]]) := by
    rw [lw_set]
    exact SS_next (R := RE D 19) (S_asub lwB_is (by kernel_rfl) ((lw_vA D D.eA D.eB (tyL D.wA) (tyL D.wB) _).trans (call_prim (P := prE D) (callE_A D _))) (lw_pA D _ _))
  have bB : (RE D 20).ss lwF.sc (setV (nm "name") (sv "B") X1) [D.toldO, .sdct [(nm "A", D.aA)]] [lwB] = some (.next, X2 (sv "B"), [D.toldO, .sdct [(nm "A", D.aA), (nm "B", D.aB)]]) := by
    rw [lw_set]
    exact SS_next (R := RE D 19) (S_asub lwB_is (by kernel_rfl) ((lw_vB D D.eA D.eB (tyL D.wA) (tyL D.wB) _).trans (call_prim (P := prE D) (callE_B D _))) (lw_pB D _ _ _))
  have s1 : stepS (RE D 20) lwF.sc X1 [D.toldO, .dct []] (lwS 1) = some (.next, X1, [D.toldO, .sdct [(nm "A", D.aA), (nm "B", D.aB)]]) := by
    refine (S_for lwS1_is (by kernel_rfl) (lw_src D _)).trans ((forGo_next bA rfl).trans ?_)
    exact forGo_next (vs := X1) (vs' := X2 (sv "B")) bB rfl
  refine run_call (P := prE D) (R := RE D 21) (vs' := X1) (own' := [D.toldO, .sdct D.adts]) (d := wI) rfl lwF_is (by kernel_rfl) (lwF_ps _) ?_ (resolve_world ?_) (told_kept D _)
  · rw [lwF_b]
    exact (SS_next (lw_0 D _)).trans ((SS_next s1).trans ((SS_next (lw_2 D _ _ _)).trans ((SS_next (lw_3 D _ _ _)).trans (SS_ret (lw_4 D _)))))
  · have e : closedF 0 D.adts = (closed 0 D.aA && (closed 0 D.aB && true)) := by kernel_rfl
    exact if_pos (e.trans (by rw [(good_adt (good_rowsT _)).closed, (good_adt (good_rowsT _)).closed]; rfl))

structure Goes (r : Option (Fl × Vars × Own)) (b : Bool) (vs : Vars) (own : Own) : Prop where
  yes : b = true → r = some (.next, vs, own)
  no : b = false → ∃ vs', r = some (.ret (.bool false), vs', own)
section
variable {R : Rec} {sc : Scope} {vs vs' : Vars} {own : Own} {b : Bool}
theorem Goes.ss {st : Stmt} (z : Goes (stepS R sc vs own st) b vs' own) : Goes (stepSs R sc vs own [st]) b vs' own := ⟨fun h => SS_next (z.yes h), fun h => (z.no h).imp fun _ e => SS_ret e⟩
theorem forGo_ret {x : Str} {body : Vars → Own → Option (Fl × Vars × Own)} {d r : AV} {ds : List AV} {own' : Own} (h : body (setV x d vs) own = some (.ret r, vs', own')) : forGo x body (d :: ds) vs own = some (.ret r, vs', own') := by
  show (body (setV x d vs) own).bind _ = _
  rw [h]; rfl
theorem forGo_all {α : Type} {x : Str} {body : Vars → Own → Option (Fl × Vars × Own)} {f : α → AV} {p : α → Bool} {V : α → Vars} {ls : List α} (h : ∀ a ∈ ls, Goes (body (setV x (f a) vs) own) (p a) (V a) own) (hc : ∀ a, ((V a).all fun v => !isClo v.2) = true) (ht : ∀ a, (V a).take vs.length = vs) : Goes (forGo x body (ls.map f) vs own) (ls.all p) vs own := by
  induction ls with
  | nil => exact ⟨fun _ => rfl, fun h => nomatch h⟩
  | cons a ls ih =>
    have ih := ih fun b hb => h b (.tail _ hb)
    have z := h a (.head _)
    cases q : p a with
    | true =>
      have e := forGo_next (ds := ls.map f) (z.yes q) (hc a)
      rw [ht] at e
      rw [List.map_cons, List.all_cons, q, e]
      exact ih
    | false => exact ⟨fun e => and_is e fun e _ => ff (q.symm.trans e), fun _ => (z.no q).imp fun _ e => forGo_ret e⟩
end
theorem filter_any (f : Ty → Bool) (ts : List Ty) : (ts.filter f).isEmpty = !ts.any f := by
  induction ts with
  | nil => rfl
  | cons t ts ih =>
    cases h : f t with
    | true => rw [List.filter_cons_of_pos h, List.any_cons, h]; rfl
    | false => rw [List.filter_cons_of_neg (h ▸ Bool.false_ne_true), List.any_cons, h, ih]; rfl

noncomputable def huF : Fn := (fnAt 227).getD ⟨[], default, []⟩
noncomputable def huS (i : Nat) : Stmt := (huF.body[i]?).getD default
noncomputable def huN : Stmt := ((foB (huS 0))[0]?).getD default
noncomputable def huI : Stmt := ((foB huN)[0]?).getD default
noncomputable def huR : Stmt := ((ifB huI)[0]?).getD default
theorem huF_is : fnAt 227 = some huF := by kernel_rfl
theorem huF_ps (a b : AV) : huF.params.zip [a, b] = [(nm "names", a), (nm "told", b)] := by kernel_rfl
theorem huF_b : huF.body = [huS 0, huS 1] := by kernel_rfl
theorem huS0_is : huS 0 = .For (.Name (nm "name") (foQ (huS 0))) (foI (huS 0)) [huN] [] (foP (huS 0)) := by kernel_rfl
theorem huN_is : huN = .For (.Name (nm "fields") (foQ huN)) (foI huN) [huI] [] (foP huN) := by kernel_rfl
theorem huI_is : huI = .If (ifT huI) [huR] [] (ifP huI) := by kernel_rfl
noncomputable abbrev Y0 (l : List Bool) : Vars := [(nm "names", nmL l), (nm "told", .loc 0)]
noncomputable abbrev NM (n : Bool) : AV := sv (if n then "A" else "B")
noncomputable abbrev Y1 (l : List Bool) (n : AV) : Vars := [(nm "names", nmL l), (nm "told", .loc 0), (nm "name", n)]
noncomputable abbrev Y2 (l : List Bool) (n v : AV) : Vars := [(nm "names", nmL l), (nm "told", .loc 0), (nm "name", n), (nm "fields", v)]
noncomputable def huT : Expr := ifT huI
noncomputable def huC : Expr := cmpL huT
theorem huT_is : huT = .Compare huC [.Eq] [cmpR huT] (exP huT) := by kernel_rfl
theorem huC_is : huC = .ListComp (lcE huC) [lcG huC] (lcS huC) (lcP huC) := by kernel_rfl
noncomputable def husc : Scope := relabelS (lcS huC) huF.sc
noncomputable abbrev huV (x N : AV) : Vars := [(nm "field", x), (nm "names", N)]
noncomputable abbrev LOk (l : List Bool) : Prop := nmOf [nmL l] = some l
noncomputable abbrev eE (l : List Bool) (t : Ty) : Bool := empT (l.contains true) (l.contains false) t
theorem callE_emp {D : Decl} {l : List Bool} {x : AV} {t : Ty} {own : Own} (hl : LOk l) (hx : decT x = some t) : callE D (.val (.ref 222)) [x, nmL l] own = some (.bool (eE l t), own) := pAt_is (deP_is hx (congrArg (Option.map _) hl))
noncomputable abbrev fTy (f : Ty → Bool) : AV → Bool := fun x => (ty? x).any f
theorem filter_emp (f : Ty → Bool) (ts : List Ty) : (ts.map AV.ty).filter (fTy f) = (ts.filter f).map .ty := List.filter_map
noncomputable abbrev upW (l : List Bool) (ws : List (List Ty)) : Bool := ws.all fun v => v.any (eE l)
noncomputable abbrev Decl.wn (D : Decl) (n : Bool) : List (List Ty) := cond n D.wA D.wB
noncomputable abbrev upD (D : Decl) (l : List Bool) (ns : List Bool) : Bool := ns.all fun n => upW l (D.wn n)
section
variable (D : Decl) (eA eB : Bool) (a b : AV) (l : List Bool)
theorem hu_src (own : Own) : (RE D 20).src huF.sc (Y0 l) own (foI (huS 0)) = some (l.map NM, own) := by kernel_rfl
theorem hu_srcA (xs : List AV) : (RE D 19).src huF.sc (Y1 l (sv "A")) [toldO eA eB (.lst xs) b] (foI huN) = some (xs, [toldO eA eB (.lst xs) b]) := by kernel_rfl
theorem hu_srcB (xs : List AV) : (RE D 19).src huF.sc (Y1 l (sv "B")) [toldO eA eB a (.lst xs)] (foI huN) = some (xs, [toldO eA eB a (.lst xs)]) := by kernel_rfl
theorem hu_t (x N : AV) (own : Own) : (RE D 16).t husc (huV x N) own (lcC huC) = ((RE D 14).call (.val (.ref 222)) [x, N] own).bind fun r => (bl? r.1).map fun b => (b, r.2) := by kernel_rfl
theorem hu_tst (hl : LOk l) (t : Ty) (own : Own) : (RE D 16).t husc (huV (.ty t) (nmL l)) own (lcC huC) = some (eE l t, own) :=
  (hu_t D (.ty t) (nmL l) own).trans (by rw [show (RE D 14).call (.val (.ref 222)) [.ty t, nmL l] own = some (.bool (eE l t), own) from call_prim (P := prE D) (callE_emp hl rfl)]; rfl)
theorem hu_comp (hl : LOk l) (n : AV) (ts : List Ty) (hlen : ts.length ≤ 1000) (own : Own) : (RE D 17).e huF.sc (Y2 l n (.lst (ts.map .ty))) own huC = some (.lst ((ts.filter (eE l)).map .ty), own) := by
  show stepE (RE D 16) huF.sc (Y2 l n (.lst (ts.map .ty))) own huC = _
  refine E_comp huC_is (comp_if (c := lcC huC) (ds := ts.map .ty) (o1 := own) (by kernel_rfl) ?_ (by kernel_rfl) ?_ (Nat.le_trans (Nat.le_of_eq (List.length_map _)) (Nat.le_trans (List.length_filter_le _ _) hlen)))
  · show (RE D 16).src huF.sc (Y2 l n (.lst (ts.map .ty))) own (lcG huC).iter = _
    kernel_rfl
  · rw [show compVs huF.sc (lcS huC) (Y2 l n (.lst (ts.map .ty))) = [(nm "names", nmL l)] by kernel_rfl, ← filter_emp]
    exact compGo_filter (x := nm "field") fun d hd => ⟨by kernel_rfl, (List.mem_map.mp hd).elim fun t e => e.2 ▸ hu_tst D l hl t own, by kernel_rfl⟩
theorem hu_ret (n v : AV) (own : Own) : stepS (RE D 17) huF.sc (Y2 l n v) own huR = some (.ret (.bool false), Y2 l n v, own) := by kernel_rfl
theorem hu_if (hl : LOk l) (n : AV) (ts : List Ty) (hlen : ts.length ≤ 1000) (own : Own) : Goes ((RE D 19).ss huF.sc (Y2 l n (.lst (ts.map .ty))) own [huI]) (ts.any (eE l)) (Y2 l n (.lst (ts.map .ty))) own := by
  have ht : (RE D 18).t huF.sc (Y2 l n (.lst (ts.map .ty))) own (ifT huI) = some (!ts.any (eE l), own) :=
    filter_any (eE l) ts ▸ T_cmp (R := RE D 17) huT_is (by kernel_rfl) (hu_comp D l hl n ts hlen own) (b := .lst []) (by kernel_rfl) (eq_nil _)
  refine Goes.ss (R := RE D 18) ⟨fun h => (S_if huI_is ht).trans (by rw [h]; rfl), fun h => ⟨Y2 l n (.lst (ts.map .ty)), (S_if huI_is ht).trans ((if_pos (by rw [h]; rfl)).trans ?_)⟩⟩
  exact SS_ret (R := RE D 17) (r := []) (hu_ret D l n _ own)
theorem hu_inner (hl : LOk l) (n : AV) (hn : isClo n = false) (own : Own) (ws : List (List Ty)) (h : ∀ v ∈ ws, v.length ≤ 1000) : Goes (forGo (nm "fields") (fun vs own => (RE D 19).ss huF.sc vs own [huI]) (ws.map fun ps => .lst (ps.map .ty)) (Y1 l n) own) (upW l ws) (Y1 l n) own :=
  forGo_all (V := fun ps => Y2 l n (.lst (ps.map .ty))) (fun v hv => by
    rw [show setV (nm "fields") (.lst (v.map .ty)) (Y1 l n) = Y2 l n (.lst (v.map .ty)) by kernel_rfl]
    exact hu_if D l hl n v (h v hv) own) (fun _ => no_clo hn) fun _ => rfl
theorem hu_name (hD : D.Ok) (hl : LOk l) (n : Bool) : Goes ((RE D 20).ss huF.sc (Y1 l (NM n)) [D.toldO] [huN]) (upW l (D.wn n)) (Y1 l (NM n)) [D.toldO] := by
  have hs : (RE D 19).src huF.sc (Y1 l (NM n)) [D.toldO] (foI huN) = some ((D.wn n).map fun ps => .lst (ps.map .ty), [D.toldO]) := by
    cases n with
    | true => exact hu_srcA D D.eA D.eB (tyL D.wB) l _
    | false => exact hu_srcB D D.eA D.eB (tyL D.wA) l _
  refine Goes.ss (R := RE D 19) ?_
  rw [S_for huN_is (by rw [show ((Y1 l (NM n)).all fun v => !isClo v.2) = true from rfl]; kernel_rfl) hs]
  refine hu_inner D l hl (NM n) rfl [D.toldO] (D.wn n) fun v hv => ?_
  cases n with
  | true => exact Nat.le_trans (hD.a.2 v hv) (by decide)
  | false => exact Nat.le_trans (hD.b.2 v hv) (by decide)
theorem hu_outer (hD : D.Ok) (hl : LOk l) (ns : List Bool) : Goes (forGo (nm "name") (fun vs own => (RE D 20).ss huF.sc vs own [huN]) (ns.map NM) (Y0 l) [D.toldO]) (upD D l ns) (Y0 l) [D.toldO] :=
  forGo_all (V := fun n => Y1 l (NM n)) (fun n _ => by
    rw [show setV (nm "name") (NM n) (Y0 l) = Y1 l (NM n) by kernel_rfl]
    exact hu_name D l hD hl n) (fun _ => rfl) fun _ => rfl
theorem hu_last (own : Own) : stepS (RE D 20) huF.sc (Y0 l) own (huS 1) = some (.ret (.bool true), Y0 l, own) := by kernel_rfl
theorem hu_run (hD : D.Ok) (hl : LOk l) : (RE D 22).call (.val (.ref 227)) [nmL l, .loc 0] [D.toldO] = some (.bool (upD D l l), [D.toldO]) := by
  have z := hu_outer D l hD hl l
  rw [← S_for huS0_is (by kernel_rfl) (hu_src D l _)] at z
  have hb : ∃ vs', (RE D 21).ss huF.sc (Y0 l) [D.toldO] huF.body = some (.ret (.bool (upD D l l)), vs', [D.toldO]) := by
    rw [huF_b]
    cases hu : upD D l l with
    | true => exact ⟨_, (SS_next (R := RE D 20) (z.yes hu)).trans (SS_ret (hu_last D l _))⟩
    | false => exact (z.no hu).imp fun _ e => SS_ret (R := RE D 20) e
  obtain ⟨vs', hb⟩ := hb
  exact run_call (P := prE D) (R := RE D 21) (own' := [D.toldO]) rfl huF_is (by kernel_rfl) (huF_ps _ _) hb rfl (told_kept D [])
end

open Classical in
noncomputable def toldOf (D : Decl) (own : Own) (d : AV) : Option Nat := (lo? d).bind fun j => if own[j]? = some D.toldO then some j else none
open Classical in
theorem toldOf_is {D : Decl} {own : Own} {d : AV} {j : Nat} (h : toldOf D own d = some j) : d = .loc j ∧ own[j]? = some D.toldO := bind_any h fun i h1 h => ite_then h fun hc h => so h ⟨lo?_is h1, hc⟩
open Classical in
theorem toldOf_of {D : Decl} {own : Own} {j : Nat} (h : own[j]? = some D.toldO) : toldOf D own (.loc j) = some j := if_pos h
theorem set_self {own : Own} {j : Nat} {o : OD} (h : own[j]? = some o) : own.set j o = own := by
  induction own generalizing j with
  | nil => rfl
  | cons p own ih =>
    cases j with
    | zero => exact (Option.some.inj h : p = o) ▸ rfl
    | succ j => exact congrArg (p :: ·) (ih h)
noncomputable def t1P (D : Decl) (r : AV) (ds : List AV) (own : Own) : Option (AV × Own) := (one? ds).bind fun d => (toldOf D own d).map fun _ => (r, own)
noncomputable def t2P (D : Decl) (f : AV → Option AV) (ds : List AV) (own : Own) : Option (AV × Own) := (two? ds).bind fun p => (toldOf D own p.2).bind fun _ => (f p.1).map fun r => (r, own)
theorem t1P_is {D : Decl} {r : AV} {own : Own} {j : Nat} (h : own[j]? = some D.toldO) : t1P D r [.loc j] own = some (r, own) := congrArg (Option.map _) (toldOf_of h)
theorem t2P_is {D : Decl} {f : AV → Option AV} {x r : AV} {own : Own} {j : Nat} (h : own[j]? = some D.toldO) (hf : f x = some r) : t2P D f [x, .loc j] own = some (r, own) :=
  (congrArg (Option.bind · _) (toldOf_of h)).trans (congrArg (Option.map _) hf)
section
variable {w : World} {base : Heap} {mg mb : Str → Option Value} {n : Nat} {X μ : List Addr} {ds : List AV} {own : Own} {d : AV} {own' : Own} {us : List Value} {A : Around} {s : Shared}
theorem told_frame {F : AV → List AV → Own → Option (AV × Own)} {a : Addr} {D : Decl} {e : AV} {j : Nat} (S : SC w base n F) (hF : F (.val (.ref a)) ds [D.toldO] = some (e, [D.toldO])) (he : closed 0 e = true) (q : own[j]? = some D.toldO) (hA : Room A n) (C : Core w base X μ own s.heap)
    (rs : ∀ b, μ[j]? = some b → VRs w s.heap X [b] ds us) : wpAny (model P0 w) A (call (.ref a) us []) (AftC w base X μ s own e) noE s := by
  have z := frame_at S q hF he hA C (closed_told D 0) (closed_told D 0) rs
  rw [set_self q] at z
  exact z
theorem t1_ok {F : AV → List AV → Own → Option (AV × Own)} {a : Addr} {D : Decl} {r : AV} (S : SC w base n F) (hF : F (.val (.ref a)) [.loc 0] [D.toldO] = some (r, [D.toldO])) (he : closed 0 r = true) (h : t1P D r ds own = some (d, own')) (hA : Room A n) (C : Core w base X μ own s.heap)
    (rs : VRs w s.heap X μ ds us) : wpAny (model P0 w) A (call (.ref a) us []) (AftC w base X μ s own' d) noE s :=
  bind_any h fun x h1 h => mp h fun j h2 => by
    obtain ⟨e, q⟩ := toldOf_is h2
    rw [one?_is h1, e] at rs
    exact told_frame S hF he q hA C fun b hb => rs.oneI fun u r => .cons (r.loc0 hb) .nil
theorem t2_ok {F : AV → List AV → Own → Option (AV × Own)} {a : Addr} {D : Decl} {f : AV → Option AV} (S : SC w base n F) (hf : ∀ {x r}, f x = some r → ∃ y, Tw F a D y r ∧ ∀ (h : Heap) (v : Value), VR w h X μ x v → VR w h X μ y v) (h : t2P D f ds own = some (d, own')) (hA : Room A n) (C : Core w base X μ own s.heap)
    (rs : VRs w s.heap X μ ds us) : wpAny (model P0 w) A (call (.ref a) us []) (AftC w base X μ s own' d) noE s :=
  bind_any h fun p h1 h => bind_any h fun j h2 h => mp h fun r h3 => by
    obtain ⟨y, ⟨e, hy, he, hF, dn⟩, up⟩ := hf h3
    obtain ⟨e2, q⟩ := toldOf_is h2
    rw [two?_is h1, e2] at rs
    exact wpAny_mono (told_frame S hF he q hA C fun b hb => rs.twoI fun u v r1 r2 => .cons ((up _ _ r1).bare0 hy) (.cons (r2.loc0 hb) .nil)) (fun v s' q => q.turn fun h' r => dn w h' X μ v r) fun _ _ e => e
end
theorem lok {l : List Bool} (h : l ∈ nmLs) : LOk l := (by decide +kernel : ∀ l ∈ nmLs, LOk l) l h

noncomputable def upG (D : Decl) (x : AV) : Option AV := (nmOf [x]).map fun l => .bool (upD D l l)
noncomputable def callF (D : Decl) : AV → List AV → Own → Option (AV × Own) := pAt 227 (t2P D (upG D)) (callE D)
noncomputable def prF (D : Decl) : Prims := ⟨callF D, fresh0⟩
theorem calF {w : World} (D : Decl) : CalS w (callF D) := .at (keep_prim (by decide)) (calE D)
section
variable {w : World} {base : Heap} {mg mb : Str → Option Value}
theorem scF (G : Gd w base mg mb) (D : Decl) (hD : D.Ok) : SC w base 63 (callF D) :=
  have S : SC w base 63 (run (prE D) 22).call := (sound_run (P := prE D) G (scE G D hD) (calE D) ((sf0 G).up (by decide)) calF0 22).call
  .at ((scE G D hD).up (by decide)) (t2_ok S fun {x r} h => mo h fun l q => by
    obtain ⟨e, hl⟩ := nmOf_is q
    rw [(List.cons.inj e).1]
    exact ⟨nmL l, ⟨_, closed_nmL l, rfl, hu_run D l hD (lok hl), fun _ _ _ _ _ r => r⟩, fun _ _ r => r⟩)
end

noncomputable abbrev RF (D : Decl) (k : Nat) : Rec := run (prF D) k
noncomputable def emF : Fn := (fnAt 234).getD ⟨[], default, []⟩
noncomputable def emS (i : Nat) : Stmt := (emF.body[i]?).getD default
noncomputable def emI : Stmt := ((foB (emS 1))[0]?).getD default
noncomputable def emA : Stmt := ((ifB emI)[0]?).getD default
theorem emF_is : fnAt 234 = some emF := by kernel_rfl
theorem emF_ps (a : AV) : emF.params.zip [a] = [(nm "told", a)] := by kernel_rfl
theorem emF_b : emF.body = [emS 0, emS 1, emS 2] := by kernel_rfl
theorem emS1_is : emS 1 = .For (.Name (nm "names") (foQ (emS 1))) (foI (emS 1)) [emI] [] (foP (emS 1)) := by kernel_rfl
theorem emI_is : emI = .If (ifT emI) [emA] [] (ifP emI) := by kernel_rfl
theorem emA_is : emA = .Assign [.Name (nm "found") (naP (asT emA))] (.BinOp (biL (asV emA)) .Add (biR (asV emA)) (biP (asV emA))) (asP emA) := by kernel_rfl
noncomputable abbrev fAV (fo : Option (List Bool)) : AV := fo.elim (.loc 1) nmL
noncomputable abbrev Z1 (f : AV) : Vars := [(nm "told", .loc 0), (nm "found", f)]
noncomputable abbrev Z2 (f N : AV) : Vars := [(nm "told", .loc 0), (nm "found", f), (nm "names", N)]
section
variable (D : Decl) (o : OD) (f N : AV)
theorem em_0 : stepS (RF D 20) emF.sc [(nm "told", .loc 0)] [o] (emS 0) = some (.next, Z1 (.loc 1), [o, .lst []]) := by kernel_rfl
theorem em_src (own : Own) : (RF D 20).src emF.sc (Z1 f) own (foI (emS 1)) = some ([nmL [true], nmL [false], nmL [true, false]], own) := by kernel_rfl
theorem em_t (own : Own) : (RF D 19).t emF.sc (Z2 f N) own (ifT emI) = ((RF D 17).call (.val (.ref 227)) [N, .loc 0] own).bind fun r => (bl? r.1).map fun b => (b, r.2) := by kernel_rfl
theorem em_l (own : Own) : (RF D 17).e emF.sc (Z2 f N) own (biL (asV emA)) = some (f, own) := by kernel_rfl
theorem em_r (own : Own) : (RF D 17).e emF.sc (Z2 f N) own (biR (asV emA)) = some (N, own) := by kernel_rfl
theorem em_2 (own : Own) : stepS (RF D 20) emF.sc (Z1 f) own (emS 2) = some (.ret f, Z1 f, own) := by kernel_rfl
theorem em_set (g : AV) : setV (nm "found") g (Z2 f N) = Z2 g N := by kernel_rfl
theorem em_setN : setV (nm "names") N (Z1 f) = Z2 f N := by kernel_rfl
theorem em_ok : (kindV emF.sc (nm "found") && putOk emF.sc (Z2 f N) (nm "found")) = ((!isClo f) || ((!isClo f) && ((!isClo N) && true))) := by kernel_rfl
end
theorem add_lst {own : Own} {a b : AV} {xs ys : List AV} (h1 : in2? a b = none) (h2 : st2? a b = none) (h3 : lst? own a = some xs) (h4 : lst? own b = some ys) (hl : xs.length + ys.length ≤ 100000) : evBin own .Add a b = some (.lst (xs ++ ys)) := by
  show evAdd own a b = _
  rw [evAdd, h1, h2, h3, h4]
  exact if_pos hl
theorem em_add (o : OD) (fo : Option (List Bool)) (l : List Bool) (h : (fo.getD []).length + l.length ≤ 100000) : evBin [o, .lst []] .Add (fAV fo) (nmL l) = some (nmL (fo.getD [] ++ l)) := by
  cases fo with
  | none => exact add_lst (xs := []) (ys := l.map NM) rfl rfl rfl rfl (by rw [List.length_map]; exact h)
  | some l' => exact (add_lst (xs := l'.map NM) (ys := l.map NM) rfl rfl rfl rfl (by rw [List.length_map, List.length_map]; exact h)).trans (congrArg (fun x => some (AV.lst x)) List.map_append.symm)
theorem clo_fAV (fo : Option (List Bool)) : isClo (fAV fo) = false := by cases fo <;> rfl
theorem callF_up {D : Decl} {own : Own} {j : Nat} {l : List Bool} (h : own[j]? = some D.toldO) (hl : LOk l) : callF D (.val (.ref 227)) [nmL l, .loc j] own = some (.bool (upD D l l), own) := pAt_is (t2P_is h (congrArg (Option.map _) hl))
noncomputable abbrev emStep (D : Decl) (fo : Option (List Bool)) (l : List Bool) : Option (List Bool) := cond (upD D l l) (some (fo.getD [] ++ l)) fo
theorem em_body (D : Decl) (fo : Option (List Bool)) (l : List Bool) (hl : LOk l) (hlen : (fo.getD []).length + l.length ≤ 100000) : (RF D 20).ss emF.sc (setV (nm "names") (nmL l) (Z1 (fAV fo))) [D.toldO, .lst []] [emI] = some (.next, Z2 (fAV (emStep D fo l)) (nmL l), [D.toldO, .lst []]) := by
  rw [em_setN]
  have ht : (RF D 19).t emF.sc (Z2 (fAV fo) (nmL l)) [D.toldO, .lst []] (ifT emI) = some (upD D l l, [D.toldO, .lst []]) :=
    (em_t D _ _ _).trans (by rw [show (RF D 17).call (.val (.ref 227)) [nmL l, .loc 0] [D.toldO, .lst []] = some (.bool (upD D l l), [D.toldO, .lst []]) from call_prim (P := prF D) (callF_up rfl hl)]; rfl)
  have hs : stepS (RF D 18) emF.sc (Z2 (fAV fo) (nmL l)) [D.toldO, .lst []] emA = some (.next, Z2 (nmL (fo.getD [] ++ l)) (nmL l), [D.toldO, .lst []]) := by
    refine (S_name emA_is ((em_ok _ _).trans (by rw [clo_fAV]; rfl)) rfl (d := nmL (fo.getD [] ++ l)) (o1 := [D.toldO, .lst []]) ?_).trans (by rw [em_set])
    exact E_bin (R := RF D 17) (p := biP (asV emA)) rfl (em_l D (fAV fo) (nmL l) _) (em_r D (fAV fo) (nmL l) _) (em_add _ fo l hlen)
  refine SS_next (R := RF D 19) ((S_if emI_is ht).trans ?_)
  show _ = some (Fl.next, Z2 (fAV (cond (upD D l l) (some (fo.getD [] ++ l)) fo)) (nmL l), [D.toldO, OD.lst []])
  cases upD D l l with
  | false => rfl
  | true => exact SS_next (R := RF D 18) (r := []) hs
noncomputable abbrev empO (D : Decl) : Option (List Bool) := emStep D (emStep D (emStep D none [true]) [false]) [true, false]
noncomputable def empL (D : Decl) : List Bool := (empO D).getD []

theorem em_go (D : Decl) (fo : Option (List Bool)) (l : List Bool) (hl : LOk l) (hlen : (fo.getD []).length + l.length ≤ 100000) (ds : List AV) :
    forGo (nm "names") (fun vs own => (RF D 20).ss emF.sc vs own [emI]) (nmL l :: ds) (Z1 (fAV fo)) [D.toldO, .lst []] = forGo (nm "names") (fun vs own => (RF D 20).ss emF.sc vs own [emI]) ds (Z1 (fAV (emStep D fo l))) [D.toldO, .lst []] :=
  forGo_next (vs := Z1 (fAV fo)) (vs' := Z2 (fAV (emStep D fo l)) (nmL l)) (em_body D fo l hl hlen) (no_clo (clo_fAV _))
theorem emStep_len (D : Decl) (fo : Option (List Bool)) (l : List Bool) : ((emStep D fo l).getD []).length ≤ (fo.getD []).length + l.length := by
  show ((cond (upD D l l) (some (fo.getD [] ++ l)) fo).getD []).length ≤ _
  cases upD D l l with
  | false => exact Nat.le_add_right _ _
  | true => exact Nat.le_of_eq List.length_append
theorem em_run (D : Decl) : (RF D 22).call (.val (.ref 234)) [.loc 0] [D.toldO] = some (nmL (empL D), [D.toldO]) := by
  have l1 : ((emStep D none [true]).getD []).length ≤ 1 := emStep_len D none [true]
  have l2 : ((emStep D (emStep D none [true]) [false]).getD []).length ≤ 2 := Nat.le_trans (emStep_len D (emStep D none [true]) [false]) (Nat.add_le_add_right l1 1)
  have s1 : stepS (RF D 20) emF.sc (Z1 (fAV none)) [D.toldO, .lst []] (emS 1) = some (.next, Z1 (fAV (empO D)), [D.toldO, .lst []]) := by
    rw [S_for emS1_is (by kernel_rfl) (em_src D _ _), em_go D none [true] (lok (by decide)) (by decide), em_go D _ [false] (lok (by decide)) (Nat.le_trans (Nat.add_le_add_right l1 1) (by decide)), em_go D _ [true, false] (lok (by decide)) (Nat.le_trans (Nat.add_le_add_right l2 2) (by decide))]
    rfl
  refine run_call (P := prF D) (R := RF D 21) (own' := [D.toldO, .lst []]) (vs' := Z1 (fAV (empO D))) (d := fAV (empO D)) rfl emF_is (by kernel_rfl) (emF_ps _) ?_ ?_ (told_kept D _)
  · rw [emF_b]
    exact (SS_next (em_0 D _)).trans ((SS_next s1).trans (SS_ret (em_2 D _ _)))
  · unfold empL
    cases empO D with
    | none => rfl
    | some l => exact resolve_closed _ _ _ (closed_nmL l)

theorem emp_ways_ : (allT.all fun t => isAB t || [true, false].all fun a => [true, false].all fun b => empT a b t == !((waysT [] [] t).any fun ps => ps.all fun p => !empT a b p)) = true := by decide +kernel
theorem parts_ : (allT.all fun t => isAB t || (waysT [] [] t).all fun ps => ps.all fun p => isBs p && !isBs t) = true := by decide +kernel
section
variable (D : Decl)
theorem at_allT {f : Ty → Bool} (h : (allT.all fun t => isAB t || f t) = true) {t : Ty} (ht : isAB t = false) : f t = true := (Bool.or_eq_true_iff.mp (List.all_eq_true.mp h t (mem_allT t))).resolve_left fun q => ff (ht.symm.trans q)
theorem bool_in (a : Bool) : a ∈ [true, false] := by cases a <;> decide
theorem emp_ways {t : Ty} (h : isAB t = false) (a b : Bool) : empT a b t = !((D.ways t).any fun ps => ps.all fun p => !empT a b p) :=
  (beq_iff_eq.mp (List.all_eq_true.mp (List.all_eq_true.mp (at_allT emp_ways_ h) a (bool_in a)) b (bool_in b))).trans (ways_out D.wA D.wB h ▸ rfl)
theorem parts {t : Ty} (h : isAB t = false) {ps : List Ty} (h1 : ps ∈ D.ways t) {p : Ty} (hp : p ∈ ps) : isBs p = true ∧ isBs t = false :=
  and_is (List.all_eq_true.mp (List.all_eq_true.mp (at_allT parts_ h) ps (ways_out D.wA D.wB h ▸ h1)) p hp) fun x y => ⟨x, Bool.not_inj (y.trans rfl : (!isBs t) = !false)⟩
theorem Der.inv {D : Decl} {t : Ty} (h : Der D t) : ∃ ps ∈ D.ways t, ∀ p ∈ ps, Der D p := h.rec fun h1 h2 _ => ⟨_, h1, h2⟩
noncomputable abbrev Tells (a b : Bool) (t : Ty) : Prop := empT a b t = true ↔ ¬ Der D t
theorem emp_key {a b : Bool} {t : Ty} (h : isAB t = false) (E : ∀ ps ∈ D.ways t, ∀ p ∈ ps, Tells D a b p) : Tells D a b t := by
  have w := emp_ways D h a b
  refine ⟨fun he hd => ?_, fun hn => ?_⟩
  · obtain ⟨ps, h1, h2⟩ := hd.inv
    rw [List.any_eq_true.mpr ⟨ps, h1, List.all_eq_true.mpr fun p hp => by
      cases q : empT a b p with
      | false => rfl
      | true => exact absurd (h2 p hp) ((E ps h1 p hp).mp q)⟩] at w
    exact ff (w.symm.trans he)
  · cases q : (D.ways t).any fun ps => ps.all fun p => !empT a b p with
    | false => rw [q] at w; exact w
    | true =>
      obtain ⟨ps, h1, h2⟩ := List.any_eq_true.mp q
      refine absurd (Der.mk h1 fun p hp => Classical.byContradiction fun z => ?_) hn
      have := List.all_eq_true.mp h2 p hp
      rw [(E ps h1 p hp).mpr z] at this
      exact ff this
theorem emp_iff {a b : Bool} (ha : a = true ↔ ¬ Der D (.base .A)) (hb : b = true ↔ ¬ Der D (.base .B)) (t : Ty) : Tells D a b t := by
  have ab : ∀ {t}, isAB t = true → Tells D a b t := fun h => (ways_ab h).elim (fun q => q ▸ ha) fun q => q ▸ hb
  have base : ∀ t, isBs t = true → Tells D a b t := fun t ht => by
    cases h : isAB t with
    | true => exact ab h
    | false => exact emp_key D h fun ps h1 p hp => ff ((parts D h h1 hp).2.symm.trans ht)
  cases h : isAB t with
  | true => exact ab h
  | false => exact emp_key D h fun ps h1 p hp => base p (parts D h h1 hp).1
theorem hu_no {l : List Bool} (h : upD D l l = true) {t : Ty} (ht : Der D t) : eE l t = false :=
  Der.rec (motive := fun t _ => eE l t = false) (fun {t ps} h1 _ ih => by
    have use : ∀ n : Bool, ps ∈ D.wn n → l.contains n = false := fun n hp => by
      cases q : l.contains n with
      | false => rfl
      | true =>
        obtain ⟨p, hp1, hp2⟩ := List.any_eq_true.mp (List.all_eq_true.mp (List.all_eq_true.mp h n (List.contains_iff_mem.mp q)) ps hp)
        exact ff ((ih p hp1).symm.trans hp2)
    cases hab : isAB t with
    | false =>
      show empT (l.contains true) (l.contains false) t = false
      rw [emp_ways D hab, List.any_eq_true.mpr ⟨ps, h1, List.all_eq_true.mpr fun p hp => by rw [show empT (l.contains true) (l.contains false) p = false from ih p hp]; rfl⟩]; rfl
    | true =>
      rcases ways_ab hab with q | q
      · rw [q] at h1 ⊢; exact use true h1
      · rw [q] at h1 ⊢; exact use false h1) ht
theorem up_yes {l : List Bool} (ha : l.contains true = true ↔ ¬ Der D (.base .A)) (hb : l.contains false = true ↔ ¬ Der D (.base .B)) : upD D l l = true :=
  List.all_eq_true.mpr fun n hn => List.all_eq_true.mpr fun v hv => by
    have hno : ¬ Der D (cond n (.base .A) (.base .B)) := by
      cases n with
      | true => exact ha.mp (List.contains_iff_mem.mpr hn)
      | false => exact hb.mp (List.contains_iff_mem.mpr hn)
    have : ∃ p ∈ v, ¬ Der D p := Classical.byContradiction fun q => hno (.mk (ps := v) (by cases n <;> exact hv) fun p hp => Classical.byContradiction fun z => q ⟨p, hp, z⟩)
    exact this.elim fun p e => List.any_eq_true.mpr ⟨p, e.1, (emp_iff D ha hb p).mpr e.2⟩
theorem mem_step {fo : Option (List Bool)} {l : List Bool} {n : Bool} : n ∈ (emStep D fo l).getD [] ↔ n ∈ fo.getD [] ∨ (upD D l l = true ∧ n ∈ l) := by
  show n ∈ (cond (upD D l l) (some (fo.getD [] ++ l)) fo).getD [] ↔ _
  cases upD D l l with
  | false => exact ⟨.inl, fun h => h.elim id fun h => ff h.1⟩
  | true => exact List.mem_append.trans ⟨fun h => h.imp id fun h => ⟨rfl, h⟩, fun h => h.imp id (·.2)⟩
theorem empL_ok (n : Bool) : (empL D).contains n = true ↔ ¬ Der D (cond n (.base .A) (.base .B)) := by
  refine List.contains_iff_mem.trans ⟨fun h hd => ?_, fun h => ?_⟩
  · have key : ∀ l : List Bool, upD D l l = true ∧ n ∈ l → False := fun l q => by
      have z := hu_no D q.1 hd
      have c := List.contains_iff_mem.mpr q.2
      cases n <;> exact Bool.false_ne_true ((show l.contains _ = false from z).symm.trans c)
    exact ((mem_step D).mp h).elim (fun h => ((mem_step D).mp h).elim (fun h => ((mem_step D).mp h).elim List.not_mem_nil (key _)) (key _)) (key _)
  · rcases Classical.em (Der D (.base .A)) with hA | hA <;> rcases Classical.em (Der D (.base .B)) with hB | hB
    · cases n with
      | true => exact absurd hA h
      | false => exact absurd hB h
    · cases n with
      | true => exact absurd hA h
      | false => exact (mem_step D).mpr (.inl ((mem_step D).mpr (.inr ⟨up_yes D ⟨(fun q => nomatch q), fun q => absurd hA q⟩ ⟨fun _ => hB, fun _ => rfl⟩, .head _⟩)))
    · cases n with
      | true => exact (mem_step D).mpr (.inl ((mem_step D).mpr (.inl ((mem_step D).mpr (.inr ⟨up_yes D ⟨fun _ => hA, fun _ => rfl⟩ ⟨(fun q => nomatch q), fun q => absurd hB q⟩, .head _⟩)))))
      | false => exact absurd hB h
    · exact (mem_step D).mpr (.inr ⟨up_yes D ⟨fun _ => hA, fun _ => rfl⟩ ⟨fun _ => hB, fun _ => rfl⟩, bool_in n⟩)
theorem agree (t : Ty) : eE (empL D) t = !derB D t := by
  have h := emp_iff D (empL_ok D true) (empL_ok D false) t
  cases hd : derB D t with
  | true =>
    cases he : eE (empL D) t with
    | false => rfl
    | true => exact absurd (@of_decide_eq_true _ (Classical.propDecidable _) hd) (h.mp he)
  | false => exact h.mpr (@of_decide_eq_false _ (Classical.propDecidable _) hd)
noncomputable abbrev stF (u : Bool) (fo : Option (List Bool)) (l : List Bool) : Option (List Bool) := cond u (some (fo.getD [] ++ l)) fo
theorem empL_mem : empL D ∈ nmLs := (by decide +kernel : ∀ u v w : Bool, (stF w (stF v (stF u none [true]) [false]) [true, false]).getD [] ∈ nmLs) (upD D [true] [true]) (upD D [false] [false]) (upD D [true, false] [true, false])
end

section
variable {w : World} {base : Heap} {mg mb : Str → Option Value} {X μ : List Addr} {own : Own} {A : Around} {s : Shared} {n : Nat}
theorem call_fnF {R : Rec} (G : Gd w base mg mb) (hS : SSs w base n R.ss) {a : Nat} {fn : Fn} {us : List Value} {ds : List AV} {od od' : OD} {vs' : Vars} (hf : fnAt a = some fn) (hl : ds.length = fn.params.length)
    (hb : R.ss fn.sc (fn.params.zip ds) [] fn.body = some (.ret (.loc 0), vs', [od])) (hc : closedOD 0 od = true) (hds : closeds 0 ds = true) (hod : ∀ {h : Heap} {X μ : List Addr} {a : Addr}, OIs w h X μ a od → OIs w h X μ a od')
    (hA : Room A (n + 1)) (C : Core w base X μ own s.heap) (r₀ : VRs w s.heap X μ ds us) : wpAny (model P0 w) A (call (.ref a) us []) (AftK w base X μ s (own ++ [od']) (.loc own.length)) noE s := by
  refine wm (call_body G hS hf hl hb hA C.bare (r₀.closed (fun _ e => e) (fun i hi => absurd hi (Nat.not_lt_zero i)) hds)) fun v s' q => q.casesOn fun X' μ' h' tk e T sub C' rv => rv.locI fun z e0 => ?_
  obtain ⟨y, e1, hO⟩ := C'.own.get (i := 0) (o := od) rfl
  have ez : y = z := Option.some.inj (e1.symm.trans e0)
  obtain ⟨ν, q, hν⟩ := T.pre
  have hz := List.mem_of_getElem? e0
  have hzn : s.heap.get? z = none := hν z ((q.trans (List.nil_append ν)) ▸ hz)
  have ap := List.nodup_cons.mp C.apart
  have kp : ∀ b o, s.heap.get? b = some o → b ≠ 83 → h'.get? b = some o := fun b o e hb => T.keep b o e fun q => hb (List.mem_singleton.mp q)
  refine ⟨X', μ ++ [z], h', tk, e, ⟨fun b o e hb => kp b o e fun q => hb (q ▸ .head _), T.live, T.fresh, [z], rfl, fun b hb => List.mem_singleton.mp hb ▸ hzn⟩, sub, ⟨C'.stays, C'.baseX, C'.tabX, C'.tab, ?_, fun b hb => ?_, ?_⟩, .loc ?_⟩
  · exact (C.own.mono (T.nodes fun a ha => List.mem_singleton.mp ha ▸ C.tabX) ⟨[z], rfl⟩ fun b hb o e => kp b o e fun q => ap.1 (q ▸ hb)).append (.cons (hod (ez ▸ hO.closed (fun _ e => e) (fun i hi => absurd hi (Nat.not_lt_zero i)) hc)) .nil)
  · exact (List.mem_append.mp hb).elim (fun q => sub b (C.subμ b q)) fun q => List.mem_singleton.mp q ▸ C'.subμ z hz
  · have n83 : z ≠ 83 := fun q => (List.nodup_cons.mp C'.apart).1 (q ▸ hz)
    exact nodup_end (l := 83 :: μ) C.apart fun q => (List.mem_cons.mp q).elim n83 fun q => (C.has (C.subμ z q)).elim fun _ e => nn (hzn.symm.trans e)
  · rw [← C.own.length, List.getElem?_append_right (Nat.le_refl _), Nat.sub_self]; rfl
end

noncomputable def poF : Fn := (fnAt 177).getD ⟨[], default, []⟩
noncomputable def poS (i : Nat) : Stmt := (poF.body[i]?).getD default
theorem poF_is : fnAt 177 = some poF := by kernel_rfl
theorem poF_ps (a b : AV) : poF.params.zip [a, b] = [(nm "script", a), (nm "k", b)] := by kernel_rfl
theorem poF_b : poF.body = [poS 0, poS 1, poS 2, poS 3, poS 4] := by kernel_rfl
noncomputable abbrev A0 (s : AV) : Vars := [(nm "script", s), (nm "k", .int 0)]
noncomputable abbrev A1 (s : AV) (c : Int) : Vars := [(nm "script", s), (nm "k", .int 0), (nm "cell", .int c)]
noncomputable abbrev A2 (s : AV) (c b : Int) : Vars := [(nm "script", s), (nm "k", .int 0), (nm "cell", .int c), (nm "big", .int b)]
noncomputable abbrev A3 (s : AV) (c b m : Int) : Vars := [(nm "script", s), (nm "k", .int 0), (nm "cell", .int c), (nm "big", .int b), (nm "mixed", .int m)]
noncomputable def poI : Stmt := ((ifB (poS 1))[0]?).getD default
noncomputable def poT : Expr := ifT (poS 1)
theorem poS1_is : poS 1 = .If poT [poI] [] (ifP (poS 1)) := by kernel_rfl
theorem poT_is : poT = .Compare (cmpL poT) [.Lt] [cmpR poT] (exP poT) := by kernel_rfl
section
variable (s : AV) (xs : List AV) (c b m n : Int)
theorem po_0 : stepS (R0 20) poF.sc (A0 s) [] (poS 0) = some (.next, A1 s 0, []) := by kernel_rfl
theorem po_len : (R0 19).e poF.sc (A1 (.lst xs) c) [] (cmpR poT) = if xs.length ≤ 100000 then some (.int xs.length, []) else none := by kernel_rfl
theorem po_cell : stepS (R0 19) poF.sc (A1 (.lst (.int n :: xs)) c) [] poI = some (.next, A1 (.lst (.int n :: xs)) n, []) := by kernel_rfl
theorem po_1 (ns : List Int) (h : ns.length ≤ 63) : ∃ c, stepS (R0 20) poF.sc (A1 (.lst (ns.map .int)) 0) [] (poS 1) = some (.next, A1 (.lst (ns.map .int)) c, []) := by
  have hl : (ns.map AV.int).length ≤ 100000 := Nat.le_trans (Nat.le_of_eq (List.length_map _)) (Nat.le_trans h (by decide))
  have ht : (R0 20).t poF.sc (A1 (.lst (ns.map .int)) 0) [] poT = some (decide ((0 : Int) < ((ns.map AV.int).length : Int)), []) :=
    T_cmp (R := R0 19) poT_is (by kernel_rfl) (a := .int 0) (o1 := []) (by kernel_rfl) (b := .int (ns.map AV.int).length) (o2 := []) ((po_len _ _).trans (if_pos hl)) rfl
  cases ns with
  | nil => exact ⟨0, S_if poS1_is ht⟩
  | cons n ns =>
    have q : decide ((0 : Int) < (((n :: ns).map AV.int).length : Int)) = true := decide_eq_true (Int.ofNat_lt.mpr (Nat.succ_pos (ns.map AV.int).length))
    rw [q] at ht
    exact ⟨n, (S_if poS1_is ht).trans (SS_next (R := R0 19) (r := []) (po_cell _ 0 n))⟩
theorem po_2 : stepS (R0 20) poF.sc (A1 s c) [] (poS 2) = some (.next, A2 s c (if -1 - c > c then -1 - c else c), []) := by kernel_rfl
noncomputable def poM : Expr := asV (poS 3)
noncomputable def poM1 : Expr := biL poM
noncomputable def poM2 : Expr := caA poM1 0
theorem poS3_is : poS 3 = .Assign [.Name (nm "mixed") (naP (asT (poS 3)))] poM (asP (poS 3)) := by kernel_rfl
theorem poM_is : poM = .BinOp poM1 .Mod (biR poM) (biP poM) := by kernel_rfl
theorem poM2_is : poM2 = .BinOp (biL poM2) .Mult (biR poM2) (biP poM2) := by kernel_rfl
theorem po_m3 : ∃ z : Int, (R0 17).e poF.sc (A2 s c b) [] (biL poM2) = some (.int z, []) := ⟨b.fmod 2147483629 + 7919 * 0 * 0 + 31 * 0 + 17, by kernel_rfl⟩
theorem po_3 : ∃ m : Int, 0 ≤ m ∧ m < 2147483647 ∧ stepS (R0 20) poF.sc (A2 s c b) [] (poS 3) = some (.next, A3 s c b m, []) := by
  obtain ⟨z, hz⟩ := po_m3 s c b
  have h2 : (R0 18).e poF.sc (A2 s c b) [] poM2 = some (.int (z * 48271), []) := by
    show stepE (R0 17) poF.sc (A2 s c b) [] poM2 = _
    refine E_bin poM2_is hz (b := .int 48271) (o2 := []) (by kernel_rfl) ?_
    show (if (decide (Builtin.Int.intBits z ≤ 64) || decide (Builtin.Int.intBits 48271 ≤ 64)) = true then some (AV.int (z * 48271)) else none) = _
    exact if_pos (by rw [show decide (Builtin.Int.intBits 48271 ≤ 64) = true by decide +kernel, Bool.or_true])
  have h1 : (R0 19).e poF.sc (A2 s c b) [] poM1 = some (.int (z * 48271), []) := by
    show stepE (R0 18) poF.sc (A2 s c b) [] poM1 = _
    exact E_call (fe := caF poM1) (args := [poM2]) (by kernel_rfl) (g := .val (.type "int")) (o1 := []) (by kernel_rfl) (es_one' (by kernel_rfl) h2) (by kernel_rfl)
  refine ⟨(z * 48271).fmod 2147483647, Int.fmod_nonneg_of_pos _ (by decide), Int.fmod_lt_of_pos _ (by decide), ?_⟩
  refine (S_name poS3_is (by kernel_rfl) (by kernel_rfl) (d := .int ((z * 48271).fmod 2147483647)) (o1 := []) ?_).trans (by kernel_rfl)
  show stepE (R0 19) poF.sc (A2 s c b) [] poM = _
  exact E_bin poM_is h1 (b := .int 2147483647) (o2 := []) (by kernel_rfl) rfl
noncomputable def poR : Expr := reE (poS 4)
noncomputable def poX (i : Nat) : Expr := (((ls? poR).getD [])[i]?).getD default
theorem poS4_is : poS 4 = .Return (some poR) (reP (poS 4)) := by kernel_rfl
theorem poR_is : ∃ p, poR = .List [poX 0, poX 1] p := ls?_is (by kernel_rfl)
theorem poR0_is : poX 0 = .BinOp (biL (poX 0)) .Mult (biR (poX 0)) (biP (poX 0)) := by kernel_rfl
noncomputable abbrev big1 (b : Int) : Int := if decide ((10 : Int) ^ (18 : Nat) ≤ b) = true then 1 else 0
theorem po_i : (R0 19).e poF.sc (A3 s c b m) [] (biR (poX 0)) = some (.int (big1 b), []) := by kernel_rfl
theorem bits_big (b : Int) : decide (Builtin.Int.intBits (big1 b) ≤ 64) = true := by
  show decide (Builtin.Int.intBits (if decide ((10 : Int) ^ (18 : Nat) ≤ b) = true then 1 else 0) ≤ 64) = true
  cases decide ((10 : Int) ^ (18 : Nat) ≤ b) <;> decide +kernel
theorem po_4 : stepS (R0 20) poF.sc (A3 s c b m) [] (poS 4) = some (.ret (.loc 0), A3 s c b m, [.lst [.int (b * big1 b), .int m]]) := by
  have h0 : (R0 20).e poF.sc (A3 s c b m) [] (poX 0) = some (.int (b * big1 b), []) := by
    show stepE (R0 19) poF.sc (A3 s c b m) [] (poX 0) = _
    refine E_bin poR0_is (a := .int b) (o1 := []) (by kernel_rfl) (po_i s c b m) ?_
    show (if (decide (Builtin.Int.intBits b ≤ 64) || decide (Builtin.Int.intBits (big1 b) ≤ 64)) = true then some (AV.int (b * big1 b)) else none) = _
    exact if_pos (by rw [bits_big, Bool.or_true])
  have hes := es_two' (R := R0 20) (sc := poF.sc) (vs := A3 s c b m) (a := poX 0) (b := poX 1) (by kernel_rfl) (by kernel_rfl) h0 (e := .int m) (o2 := []) (by kernel_rfl)
  obtain ⟨p, hp⟩ := poR_is
  have hr : (R0 20).rhs poF.sc (A3 s c b m) [] poR = some (.loc 0, [.lst [.int (b * big1 b), .int m]]) := by
    rw [hp]
    show (if 2 ≤ 1000 then ((R0 20).es poF.sc (A3 s c b m) [] [poX 0, poX 1]).map (fun r => (AV.loc r.2.length, r.2 ++ [OD.lst r.1])) else none) = _
    rw [if_pos (by decide), hes]; rfl
  rw [poS4_is]
  show (if retOwn poR = true then (R0 20).rhs poF.sc (A3 s c b m) [] poR else (R0 20).e poF.sc (A3 s c b m) [] poR).map _ = _
  rw [if_pos (by kernel_rfl), hr]; rfl
theorem po_run (ns : List Int) (h : ns.length ≤ 63) : ∃ (σ : Src) (vs' : Vars), (R0 21).ss poF.sc (A0 (.lst (ns.map .int))) [] poF.body = some (.ret (.loc 0), vs', [.lst [.int σ.a, .int σ.b]]) := by
  obtain ⟨c, h1⟩ := po_1 ns h
  have h2 := po_2 (.lst (ns.map .int)) c
  generalize (if -1 - c > c then -1 - c else c) = b at h2
  obtain ⟨m, m0, m1, h3⟩ := po_3 (.lst (ns.map .int)) c b
  refine ⟨⟨b * big1 b, m, m0, m1⟩, A3 (.lst (ns.map .int)) c b m, ?_⟩
  rw [poF_b]
  exact (SS_next (R := R0 20) (po_0 _)).trans ((SS_next h1).trans ((SS_next h2).trans ((SS_next h3).trans (SS_ret (po_4 _ c b m)))))
end

noncomputable def pool (ns : List Int) (h : ns.length ≤ 63) : Src := (po_run ns h).choose
theorem pool_is (ns : List Int) (h : ns.length ≤ 63) : ∃ vs' : Vars, (R0 21).ss poF.sc (A0 (.lst (ns.map .int))) [] poF.body = some (.ret (.loc 0), vs', [.lst [.int (pool ns h).a, .int (pool ns h).b]]) := (po_run ns h).choose_spec

noncomputable def hasG (D : Decl) (t : Ty) (rest : List AV) : Option AV := if AV.sames [D.world] rest then some (.bool (derB D t)) else none
noncomputable def wyG (D : Decl) (t : Ty) (rest : List AV) : Option AV := if AV.sames [D.world] rest then some (tyL (D.ways t)) else none
noncomputable def lawG (D : Decl) (x : AV) : Option AV := (decT x).map fun t => tyL (D.ways t)
noncomputable def callL (D : Decl) : AV → List AV → Own → Option (AV × Own) := pAt 118 (deP (hasG D)) (pAt 113 (deP (wyG D)) (pAt 222 (deP empG) (pAt 215 (t1P D D.world) (pAt 234 (t1P D (nmL (empL D))) (pAt 241 (t2P D (lawG D)) callD)))))
noncomputable def poP (ns : List Int) (h : ns.length ≤ 63) (ds : List AV) (own : Own) : Option (AV × Own) := if AV.sames [.lst (ns.map .int), .int 0] ds then some (.loc own.length, own ++ [.src (pool ns h)]) else none
noncomputable def freshL (ns : List Int) (h : ns.length ≤ 63) : AV → List AV → Own → Option (AV × Own) := pAt 177 (poP ns h) fresh0
noncomputable def prL (D : Decl) (ns : List Int) (h : ns.length ≤ 63) : Prims := ⟨callL D, freshL ns h⟩
theorem calL {w : World} (D : Decl) : CalS w (callL D) := .at (keep_prim (by decide)) (.at (keep_prim (by decide)) (.at (keep_prim (by decide)) (.at (keep_prim (by decide)) (.at (keep_prim (by decide)) (.at (keep_prim (by decide)) calD)))))
theorem calFL {w : World} (ns : List Int) (hn : ns.length ≤ 63) : CalS w (freshL ns hn) := .at (keep_prim (by decide)) calF0
theorem good_script (ns : List Int) : Goods [.lst (ns.map .int), .int 0] := good_cons (good_lst (good_map fun n _ => good_int n)) (good_cons (good_int 0) good_nil)
theorem good_world (D : Decl) : Goods [D.world] := good_cons D.good good_nil

theorem hv_de {D : Decl} (hD : D.Ok) {t : Ty} {rest : List AV} {d : AV} (h : hasG D t rest = some d) : De (run (pr2 D) 32).call 118 t rest d := ite_then h fun hs h => so h <| by
  rw [← AV.sames_eq hs]
  exact ⟨(good_world D).closed, .ty t, _, rfl, rfl, hv_call D t hD, fun _ _ _ _ _ => ⟨.ty, id⟩⟩
theorem wy_de {D : Decl} (hD : D.Ok) {t : Ty} {rest : List AV} {d : AV} (h : wyG D t rest = some d) : De (run pr1 40).call 113 t rest d := ite_then h fun hs h => so h <| by
  rw [← AV.sames_eq hs]
  refine ⟨(good_world D).closed, enc t, _, closed_enc t, ?_, ways_at D hD t, fun _ _ _ _ _ => ⟨id, ?_⟩⟩
  all_goals cases q : isAB t
  · exact closed_encL _
  · exact closed_tyL _
  · exact vr_tyL
  · exact id
section
variable {w : World} {base : Heap} {mg mb : Str → Option Value}
theorem sfL (G : Gd w base mg mb) (ns : List Int) (hn : ns.length ≤ 63) : SF w base 23 (freshL ns hn) :=
  .at ((sf0 G).up (by decide)) fun {X μ ds own d own' us A s} h hA C rs => ite_then h fun hs h => sp h <| by
    rw [← AV.sames_eq hs] at rs
    obtain ⟨vs', hp⟩ := pool_is ns hn
    exact call_fnF G (sound_run (P := pr0) G (sc0 G) cal0 (sf0 G) calF0 21).ss (od := .lst [.int (pool ns hn).a, .int (pool ns hn).b]) poF_is (by kernel_rfl) (by rw [poF_ps]; exact hp) rfl (good_script ns).closed (fun o => o.source) hA C rs
theorem scL (G : Gd w base mg mb) (D : Decl) (hD : D.Ok) : SC w base 113 (callL D) :=
  have F := fun {m : Nat} (h : 1 ≤ m) => (sf0 G).up h
  have S0 : SC w base 113 (run pr0 41).call := (sound_run (P := pr0) G (sc0 G) cal0 (sf0 G) calF0 41).call.up (by decide)
  have S0' : SC w base 113 (run pr0 40).call := (sound_run (P := pr0) G (sc0 G) cal0 (sf0 G) calF0 40).call.up (by decide)
  have S1 : SC w base 113 (run pr1 40).call := (sound_run (P := pr1) G (sc1 G) cal1 (F (by decide)) calF0 40).call.up (by decide)
  have S2 : SC w base 113 (run (pr2 D) 32).call := (sound_run (P := pr2 D) G (sc2 G D hD) (cal2 D) (F (by decide)) calF0 32).call
  have SE' : SC w base 113 (run (prE D) 22).call := (sound_run (P := prE D) G (scE G D hD) (calE D) (F (by decide)) calF0 22).call.up (by decide)
  have SF' : SC w base 113 (run (prF D) 22).call := (sound_run (P := prF D) G (scF G D hD) (calF D) (F (by decide)) calF0 22).call.up (by decide)
  .at (.at (.at (.at (.at (.at ((scD G).up (by decide)) (t2_ok S0 fun {x r} h => mo h fun t q => ⟨enc t, wy_run D t, fun _ _ r => vr_dec q r⟩)) (t1_ok SF' (em_run D) (closed_nmL _))) (t1_ok SE' (lw_run D) D.good.closed)) (de_ok S0' emp_de)) (de_ok S1 (wy_de hD))) (de_ok S2 (hv_de hD))
end

section
variable {R : Rec} {sc : Scope} {vs vs' vs'' : Vars} {own o1 o2 o3 : Own}
theorem S_pairT {st : Stmt} {t1 t2 e1 e2 : Expr} {k k2 : Nat} {p p2 q : Pos} {a b : AV} (h : st = .Assign [.Tuple [t1, t2] k p] (.Tuple [e1, e2] k2 p2) q) (hn : (vs.any fun v => isClo v.2) = false) (hw : swp sc t1 t2 e1 e2 = some true) (hr : R.rhss sc vs own [e1, e2] = some ([a, b], o1))
    (h2 : R.put sc vs o1 t2 b = some (vs', o2)) (h1 : R.put sc vs' o2 t1 a = some (vs'', o3)) : stepS R sc vs own st = some (.next, vs'', o3) := by
  rw [h]
  have : stepPair R sc vs own t1 t2 e1 e2 = some (vs'', o3) := by
    refine (if_neg (hn ▸ Bool.false_ne_true)).trans ?_
    rw [hw, Option.bind_some]
    show (R.rhss sc vs own [e1, e2]).bind _ = _
    rw [hr]
    show (R.put sc vs o1 t2 b).bind _ = _
    rw [h2]
    exact h1
  show (stepPair R sc vs own t1 t2 e1 e2).map _ = _
  rw [this]; rfl
theorem rhss_two {e1 e2 : Expr} {a b : AV} (hs : isStar e1 = false) (hs' : isStar e2 = false) (h1 : R.rhs sc vs own e1 = some (a, o1)) (h2 : R.rhs sc vs o1 e2 = some (b, o2)) : R.rhss sc vs own [e1, e2] = some ([a, b], o2) := es_two' (R := { R with e := R.rhs }) hs hs' h1 h2
theorem E_two {e e1 e2 : Expr} {k : Nat} {p : Pos} {a b : AV} (h : e = .Tuple [e1, e2] k p) (hs : isStar e1 = false) (hs' : isStar e2 = false) (h1 : R.e sc vs own e1 = some (a, o1)) (h2 : R.e sc vs o1 e2 = some (b, o2)) : stepE R sc vs own e = some (.tup [a, b], o2) := by
  rw [h]
  show (if 2 ≤ 1000 then (R.es sc vs own [e1, e2]).map (fun r => (AV.tup r.1, r.2)) else none) = _
  rw [if_pos (by decide), es_two' hs hs' h1 h2]; rfl
end
noncomputable def laF : Fn := (((P0.main.body[39]?).bind fnOfStmt)).getD ⟨[], default, []⟩
noncomputable def laS (i : Nat) : Stmt := (laF.body[i]?).getD default
theorem laF_b : laF.body = [laS 0, laS 1, laS 2, laS 3, laS 4, laS 5, laS 6, laS 7] := by kernel_rfl
theorem laF_p : laF.params = [nm "script"] := by kernel_rfl
noncomputable abbrev RL (D : Decl) (ns : List Int) (h : ns.length ≤ 63) (k : Nat) : Rec := run (prL D ns h) k
noncomputable abbrev w0 : AV := worldOf (.loc 0)
noncomputable abbrev nobody : AV := .tup [sv "never"]
noncomputable abbrev B0 (xs : List AV) : Vars := [(nm "script", .lst xs)]
noncomputable abbrev B1 (xs : List AV) : Vars := [(nm "script", .lst xs), (nm "world", w0), (nm "nobody", nobody)]
section
variable (D : Decl) (ns : List Int) (h : ns.length ≤ 63) (xs : List AV)
theorem la_0 : stepS (RL D ns h 60) laF.sc (B0 xs) [] (laS 0) = some (.next, B1 xs, [.dct []]) := by kernel_rfl
theorem la_1a : (RL D ns h 59).t laF.sc (B1 xs) [.dct []] (boA (ifT (laS 1)) 0) = some (false, [.dct []]) := by kernel_rfl
theorem la_1b : (RL D ns h 59).t laF.sc (B1 xs) [.dct []] (boA (ifT (laS 1)) 1) = some (false, [.dct []]) := by kernel_rfl
theorem la_1i : laS 1 = .If (ifT (laS 1)) (ifB (laS 1)) [] (ifP (laS 1)) := by kernel_rfl
theorem la_1o : ifT (laS 1) = .BoolOp .Or [boA (ifT (laS 1)) 0, boA (ifT (laS 1)) 1] (exP (ifT (laS 1))) := by kernel_rfl
theorem la_1 : stepS (RL D ns h 60) laF.sc (B1 xs) [.dct []] (laS 1) = some (.next, B1 xs, [.dct []]) :=
  S_if (R := RL D ns h 60) la_1i (T_or (R := RL D ns h 59) la_1o (la_1a D ns h xs) (la_1b D ns h xs))

noncomputable abbrev B2 (xs : List AV) (w : AV) : Vars := [(nm "script", .lst xs), (nm "world", w), (nm "nobody", nobody), (nm "told", .loc 2), (nm "source", .loc 1)]
theorem la_2i : laS 2 = .Assign [.Tuple [tuX (asT (laS 2)) 0, tuX (asT (laS 2)) 1] (tuK (asT (laS 2))) (tuP (asT (laS 2)))] (.Tuple [tuX (asV (laS 2)) 0, tuX (asV (laS 2)) 1] (tuK (asV (laS 2))) (tuP (asV (laS 2)))) (asP (laS 2)) := by kernel_rfl
theorem la_2f (own : Own) : (RL D ns h 60).rhs laF.sc (B1 xs) own (tuX (asV (laS 2)) 0) = freshL ns h (.val (.ref 177)) [.lst xs, .int 0] own := by kernel_rfl
theorem la_2 : stepS (RL D ns h 60) laF.sc (B1 (ns.map .int)) [.dct []] (laS 2) = some (.next, B2 (ns.map .int) w0, [.dct [], .src (pool ns h), .dct []]) :=
  S_pairT (R := RL D ns h 60) (vs' := [(nm "script", .lst (ns.map .int)), (nm "world", w0), (nm "nobody", nobody), (nm "told", .loc 2)]) (o2 := [.dct [], .src (pool ns h), .dct []]) la_2i rfl (by kernel_rfl)
    (rhss_two (by kernel_rfl) (by kernel_rfl) ((la_2f ..).trans (pAt_is (r := (.loc 1, [.dct [], .src (pool ns h)])) (if_pos (good_script ns).same))) (b := .loc 2) (o2 := [.dct [], .src (pool ns h), .dct []]) (by kernel_rfl)) (by kernel_rfl) (by kernel_rfl)
end
noncomputable abbrev B3 (xs : List AV) (w n : AV) : Vars := B2 xs w ++ [(nm "name", n)]
noncomputable abbrev B4 (xs : List AV) (w n : AV) (e : Bool) : Vars := B2 xs w ++ [(nm "name", n), (nm "is_enum_here", .bool e)]
noncomputable def laN (i : Nat) : Stmt := ((foB (laS 3))[i]?).getD default
theorem laS3_is : laS 3 = .For (.Name (nm "name") (foQ (laS 3))) (foI (laS 3)) [laN 0, laN 1] [] (foP (laS 3)) := by kernel_rfl
noncomputable def laC : Expr := asV (laN 0)
theorem laN0_is : laN 0 = .Assign [.Name (nm "is_enum_here") (naP (asT (laN 0)))] laC (asP (laN 0)) := by kernel_rfl
theorem laC_is : laC = .Compare (cmpL laC) [.Gt] [cmpR laC] (exP laC) := by kernel_rfl
noncomputable abbrev laTg : Expr := .Subscript (suO (asT (laN 1))) (suI (asT (laN 1))) (suP (asT (laN 1)))
theorem laN1_is : laN 1 = .Assign [laTg] (asV (laN 1)) (asP (laN 1)) := by kernel_rfl
noncomputable def laV : Expr := asV (laN 1)
theorem laV_is : laV = .Tuple [tuX laV 0, tuX laV 1] (tuK laV) (tuP laV) := by kernel_rfl
section
variable (D : Decl) (ns : List Int) (h : ns.length ≤ 63) (xs : List AV) (w n : AV)
theorem la_3s (own : Own) : (RL D ns h 60).src laF.sc (B2 xs w) own (foI (laS 3)) = some ([sv "A", sv "B"], own) := by kernel_rfl
theorem callL_D {b : Nat} {ds : List AV} {own : Own} {r : Option (AV × Own)} (hb : ([118, 113, 222, 215, 234, 241].contains b) = false) (hd : callD (.val (.ref b)) ds own = r) : callL D (.val (.ref b)) ds own = r := by
  have ne : ∀ a ∈ [118, 113, 222, 215, 234, 241], (b == a) = false := fun a ha => beq_eq_false_iff_ne.mpr fun q => ff (hb.symm.trans (List.contains_iff_mem.mpr (q ▸ ha)))
  exact pAt_no (ne _ (.head _)) (pAt_no (ne _ (.tail _ (.head _))) (pAt_no (ne _ (.tail _ (.tail _ (.head _)))) (pAt_no (ne _ (.tail _ (.tail _ (.tail _ (.head _))))) (pAt_no (ne _ (.tail _ (.tail _ (.tail _ (.tail _ (.head _)))))) (pAt_no (ne _ (.tail _ (.tail _ (.tail _ (.tail _ (.tail _ (.head _))))))) hd)))))
theorem RL_take {k i n : Nat} {σ : Src} {own : Own} (hi : own[i]? = some (.src σ)) (h1 : 1 ≤ n) (h9 : n ≤ 9) : (RL D ns h (k + 1)).call (.val (.ref 184)) [.loc i, .int n] own = some (.int (.ofNat (σ.dig n)), own.set i (.src (σ.nxt n))) :=
  call_prim (P := prL D ns h) (callL_D D (by decide) (pAt_no rfl (callC_take hi h1 h9)))
theorem la_3l (own : Own) : (RL D ns h 58).e laF.sc (B3 xs w n) own (cmpL laC) = (RL D ns h 57).call (.val (.ref 184)) [.loc 1, .int 4] own := by kernel_rfl
theorem la_30 (σ : Src) (o p : OD) : stepS (RL D ns h 59) laF.sc (B3 xs w n) [o, .src σ, p] (laN 0) = some (.next, B4 xs w n (decide (0 < σ.dig 4)), [o, .src (σ.nxt 4), p]) := by
  refine (S_name laN0_is (by kernel_rfl) (by kernel_rfl) (d := .bool (decide (0 < σ.dig 4))) (o1 := [o, .src (σ.nxt 4), p]) ?_).trans (by kernel_rfl)
  show stepE (RL D ns h 58) laF.sc (B3 xs w n) [o, .src σ, p] laC = _
  exact E_cmp laC_is (by kernel_rfl) ((la_3l D ns h xs w n _).trans (RL_take D ns h (n := 4) rfl (by decide) (by decide))) (b := .int 0) (by kernel_rfl) (congrArg some (decide_eq_decide.mpr (show (0 : Int) < ((σ.dig 4 : Nat) : Int) ↔ 0 < σ.dig 4 from Int.ofNat_lt)))
theorem la_31c (e : Bool) (σ : Src) (o p : OD) : (RL D ns h 58).e laF.sc (B4 xs w n e) [o, .src σ, p] (tuX laV 1) = some (tyL (σ.vrs e), [o, .src (σ.vnx e), p]) := by kernel_rfl
theorem la_31v (e : Bool) (σ : Src) (o p : OD) : (RL D ns h 59).e laF.sc (B4 xs w n e) [o, .src σ, p] laV = some (.tup [.bool e, tyL (σ.vrs e)], [o, .src (σ.vnx e), p]) := by
  show stepE (RL D ns h 58) laF.sc (B4 xs w n e) [o, .src σ, p] laV = _
  exact E_two (R := RL D ns h 58) laV_is (by kernel_rfl) (by kernel_rfl) (a := .bool e) (o1 := [o, .src σ, p]) (by kernel_rfl) (la_31c D ns h xs w n e σ o p)
theorem la_31pA (e : Bool) (o p : OD) (d : AV) : (RL D ns h 59).put laF.sc (B4 xs w (sv "A") e) [o, p, .dct []] laTg d = some (B4 xs w (sv "A") e, [o, p, .sdct [(nm "A", d)]]) := by kernel_rfl
theorem la_31pB (e : Bool) (o p : OD) (d f : AV) : (RL D ns h 59).put laF.sc (B4 xs w (sv "B") e) [o, p, .sdct [(nm "A", f)]] laTg d = some (B4 xs w (sv "B") e, [o, p, .sdct [(nm "A", f), (nm "B", d)]]) := by kernel_rfl
theorem la_set : setV (nm "name") n (B2 xs w) = B3 xs w n := by kernel_rfl
end
noncomputable def enumOf (σ : Src) : Bool := decide (0 < σ.dig 4)
noncomputable def σA (σ : Src) : Src := (σ.nxt 4).vnx (enumOf σ)
noncomputable def rowOf (σ : Src) : List (List Ty) := (σ.nxt 4).vrs (enumOf σ)
noncomputable def declOf (σ : Src) : Decl := ⟨enumOf σ, rowOf σ, enumOf (σA σ), rowOf (σA σ)⟩
noncomputable def σB (σ : Src) : Src := σA (σA σ)
theorem declOf_ok (σ : Src) : (declOf σ).Ok := ⟨((σ.nxt 4).vrs_is _).1, (((σA σ).nxt 4).vrs_is _).1⟩
noncomputable abbrev toldT (σ : Src) : AV := .tup [.bool (enumOf σ), tyL (rowOf σ)]
noncomputable abbrev oL (o : OD) (σ : Src) (D : Decl) : Own := [o, .src σ, D.toldO]
section
variable (D : Decl) (ns : List Int) (h : ns.length ≤ 63) (xs : List AV) (w : AV)
theorem la_bA (σ : Src) (o : OD) : (RL D ns h 60).ss laF.sc (setV (nm "name") (sv "A") (B2 xs w)) [o, .src σ, .dct []] [laN 0, laN 1] = some (.next, B4 xs w (sv "A") (enumOf σ), [o, .src (σA σ), .sdct [(nm "A", toldT σ)]]) := by
  rw [la_set]
  exact (SS_next (R := RL D ns h 59) (la_30 D ns h xs w (sv "A") σ o (.dct []))).trans (SS_next (r := []) (S_asub laN1_is (by kernel_rfl) (la_31v D ns h xs w (sv "A") _ (σ.nxt 4) o (.dct [])) (la_31pA D ns h xs w _ o _ _)))
theorem la_bB (σ : Src) (o : OD) (f : AV) : (RL D ns h 60).ss laF.sc (setV (nm "name") (sv "B") (B2 xs w)) [o, .src σ, .sdct [(nm "A", f)]] [laN 0, laN 1] = some (.next, B4 xs w (sv "B") (enumOf σ), [o, .src (σA σ), .sdct [(nm "A", f), (nm "B", toldT σ)]]) := by
  rw [la_set]
  exact (SS_next (R := RL D ns h 59) (la_30 D ns h xs w (sv "B") σ o (.sdct [(nm "A", f)]))).trans (SS_next (r := []) (S_asub laN1_is (by kernel_rfl) (la_31v D ns h xs w (sv "B") _ (σ.nxt 4) o (.sdct [(nm "A", f)])) (la_31pB D ns h xs w _ o _ _ f)))
theorem la_3 (hw : isClo w = false) (σ : Src) (o : OD) : stepS (RL D ns h 60) laF.sc (B2 xs w) [o, .src σ, .dct []] (laS 3) = some (.next, B2 xs w, oL o (σB σ) (declOf σ)) := by
  have hk : (kindV laF.sc (nm "name") && ((B2 xs w).all fun v => !isClo v.2) && !isSet (foI (laS 3))) = true := by
    rw [show ((B2 xs w).all fun v => !isClo v.2) = true from no_clo hw]; kernel_rfl
  refine (S_for laS3_is hk (la_3s D ns h xs w _)).trans ((forGo_next (vs := B2 xs w) (vs' := B4 xs w (sv "A") (enumOf σ)) (la_bA D ns h xs w σ o) (no_clo hw)).trans ?_)
  exact forGo_next (vs := B2 xs w) (vs' := B4 xs w (sv "B") (enumOf (σA σ))) (la_bB D ns h xs w (σA σ) o (toldT σ)) (no_clo hw)

noncomputable abbrev B5 (xs : List AV) (W E : AV) : Vars := [(nm "script", .lst xs), (nm "world", W), (nm "nobody", nobody), (nm "told", .loc 2), (nm "source", .loc 1), (nm "empties", E)]
noncomputable abbrev B6 (xs : List AV) (W E d : AV) : Vars := B5 xs W E ++ [(nm "t", d)]
section
variable {D : Decl} {x : AV} {t : Ty} {own : Own}
theorem callL_ways (hx : decT x = some t) : callL D (.val (.ref 113)) [x, D.world] own = some (tyL (D.ways t), own) := pAt_no rfl (pAt_is (deP_is hx (if_pos (good_world D).same)))
theorem callL_has (hx : decT x = some t) : callL D (.val (.ref 118)) [x, D.world] own = some (.bool (derB D t), own) := pAt_is (deP_is hx (if_pos (good_world D).same))
theorem callL_emp (hx : decT x = some t) : callL D (.val (.ref 222)) [x, nmL (empL D)] own = some (.bool (!derB D t), own) :=
  pAt_no rfl (pAt_no rfl (pAt_is (deP_is hx ((congrArg (Option.map _) (lok (empL_mem D))).trans (congrArg (fun b => some (AV.bool b)) (agree D t))))))
theorem callL_law (hx : decT x = some t) {j : Nat} (ho : own[j]? = some D.toldO) : callL D (.val (.ref 241)) [x, .loc j] own = some (tyL (D.ways t), own) := pAt_no rfl (pAt_no rfl (pAt_no rfl (pAt_no rfl (pAt_no rfl (pAt_is (t2P_is ho (congrArg (Option.map _) hx)))))))
theorem callL_world {j : Nat} (ho : own[j]? = some D.toldO) : callL D (.val (.ref 215)) [.loc j] own = some (D.world, own) := pAt_no rfl (pAt_no rfl (pAt_no rfl (pAt_is (t1P_is ho))))
theorem callL_found {j : Nat} (ho : own[j]? = some D.toldO) : callL D (.val (.ref 234)) [.loc j] own = some (nmL (empL D), own) := pAt_no rfl (pAt_no rfl (pAt_no rfl (pAt_no rfl (pAt_is (t1P_is ho)))))
theorem RL_prim {ns : List Int} {h : ns.length ≤ 63} {f : AV} {args : List AV} {k : Nat} {d : AV} {own' : Own} (hp : callL D f args own = some (d, own')) : (RL D ns h (k + 1)).call f args own = some (d, own') := call_prim (P := prL D ns h) hp
end
theorem la_4i : laS 4 = .Assign [.Tuple [tuX (asT (laS 4)) 0, tuX (asT (laS 4)) 1] (tuK (asT (laS 4))) (tuP (asT (laS 4)))] (.Tuple [tuX (asV (laS 4)) 0, tuX (asV (laS 4)) 1] (tuK (asV (laS 4))) (tuP (asV (laS 4)))) (asP (laS 4)) := by kernel_rfl
theorem la_40 (own : Own) : (RL D ns h 60).rhs laF.sc (B2 xs w) own (tuX (asV (laS 4)) 0) = (RL D ns h 59).call (.val (.ref 215)) [.loc 2] own := by kernel_rfl
theorem la_41 (own : Own) : (RL D ns h 60).rhs laF.sc (B2 xs w) own (tuX (asV (laS 4)) 1) = (RL D ns h 59).call (.val (.ref 234)) [.loc 2] own := by kernel_rfl
theorem la_4p (own : Own) (E : AV) : (RL D ns h 60).put laF.sc (B2 xs w) own (tuX (asT (laS 4)) 1) E = some (B5 xs w E, own) := by kernel_rfl
theorem la_4q (own : Own) (W E : AV) (hw : isClo w = false) : (RL D ns h 60).put laF.sc (B5 xs w E) own (tuX (asT (laS 4)) 0) W = some (B5 xs W E, own) := by
  have e : (RL D ns h 60).put laF.sc (B5 xs w E) own (tuX (asT (laS 4)) 0) W = if ((!isClo w) || (B5 xs w E).all fun v => !isClo v.2) = true then some (B5 xs W E, own) else none := by kernel_rfl
  exact e.trans (if_pos (by rw [hw]; rfl))
theorem la_4 (hw : isClo w = false) (σ : Src) (o : OD) : stepS (RL D ns h 60) laF.sc (B2 xs w) (oL o σ D) (laS 4) = some (.next, B5 xs D.world (nmL (empL D)), oL o σ D) :=
  S_pairT (R := RL D ns h 60) la_4i (by show (isClo w || false) = false; rw [hw]; rfl) (by kernel_rfl) (rhss_two (by kernel_rfl) (by kernel_rfl) ((la_40 D ns h xs w _).trans (RL_prim (callL_world rfl))) ((la_41 D ns h xs w _).trans (RL_prim (callL_found rfl)))) (la_4p D ns h xs w _ _) (la_4q D ns h xs w _ _ _ hw)

noncomputable def laT5 : Expr := ifT (laS 5)
theorem la_5i : laS 5 = .If laT5 (ifB (laS 5)) [] (ifP (laS 5)) := by kernel_rfl
theorem laT5_is : laT5 = .Compare (cmpL laT5) [.NotEq] [cmpR laT5] (exP laT5) := by kernel_rfl
theorem la_5c (W E : AV) (own : Own) : (RL D ns h 59).e laF.sc (B5 xs W E) own (cmpL laT5) = (RL D ns h 58).call (.val (.ref 113)) [enc .param, W] own := by kernel_rfl
theorem la_5 (E : AV) (own : Own) : stepS (RL D ns h 60) laF.sc (B5 xs D.world E) own (laS 5) = some (.next, B5 xs D.world E, own) :=
  S_if (R := RL D ns h 60) la_5i (T_cmp (R := RL D ns h 59) laT5_is (by kernel_rfl) ((la_5c D ns h xs _ E own).trans (RL_prim (callL_ways (decT_enc .param)))) (b := .lst [.lst []]) (by kernel_rfl) (c := false) rfl)

theorem beqs_map {α : Type} {f : α → AV} (h : ∀ a, AV.beq (f a) (f a) = true) (l : List α) : AV.beqs (l.map f) (l.map f) = true := by
  induction l with
  | nil => rfl
  | cons a l ih => exact Bool.and_eq_true_iff.mpr ⟨h a, ih⟩
theorem ne_self {own : Own} (ws : List (List Ty)) : evCmp own .NotEq (tyL ws) (tyL ws) = some false := by
  show (if (AV.plain dep (tyL ws).norm && AV.plain dep (tyL ws).norm) = true then some (!AV.beq (tyL ws).norm (tyL ws).norm) else none) = _
  rw [tyL_norm, encL_plain, if_pos (by rfl), show AV.beq (encL ws) (encL ws) = true from beqs_map (f := fun w : List Ty => AV.lst (w.map enc)) (fun w => beqs_map (fun t => (beq_enc t t).trans (decide_eq_true rfl)) w) ws]; rfl
noncomputable def laI : Stmt := ((foB (laS 6))[0]?).getD default
noncomputable def laT6 : Expr := ifT laI
theorem laS6_is : laS 6 = .For (.Name (nm "t") (foQ (laS 6))) (foI (laS 6)) [laI] [] (foP (laS 6)) := by kernel_rfl
theorem laI_is : laI = .If laT6 (ifB laI) [] (ifP laI) := by kernel_rfl
noncomputable def laP : Expr := boA laT6 0
noncomputable def laQ : Expr := boA laT6 1
theorem laT6_is : laT6 = .BoolOp .Or [laP, laQ] (exP laT6) := by kernel_rfl
theorem laP_is : laP = .Compare (cmpL laP) [.Eq] [cmpR laP] (exP laP) := by kernel_rfl
theorem laQ_is : laQ = .Compare (cmpL laQ) [.NotEq] [cmpR laQ] (exP laQ) := by kernel_rfl
theorem la_6a (W E d : AV) (own : Own) : (RL D ns h 57).e laF.sc (B6 xs W E d) own (cmpL laP) = (RL D ns h 56).call (.val (.ref 118)) [d, W] own := by kernel_rfl
theorem la_6b (W E d : AV) (own : Own) : (RL D ns h 57).e laF.sc (B6 xs W E d) own (cmpR laP) = (RL D ns h 56).call (.val (.ref 222)) [d, E] own := by kernel_rfl
theorem la_6c (W E d : AV) (own : Own) : (RL D ns h 57).e laF.sc (B6 xs W E d) own (cmpL laQ) = (RL D ns h 56).call (.val (.ref 113)) [d, W] own := by kernel_rfl
theorem la_6d (W E d : AV) (own : Own) : (RL D ns h 57).e laF.sc (B6 xs W E d) own (cmpR laQ) = (RL D ns h 56).call (.val (.ref 241)) [d, .loc 2] own := by kernel_rfl
theorem eq_not (b : Bool) (own : Own) : evCmp own .Eq (.bool b) (.bool !b) = some false := by cases b <;> rfl
theorem la_set6 (W E d : AV) : setV (nm "t") d (B5 xs W E) = B6 xs W E d := by kernel_rfl
theorem la_6body {d : AV} {t : Ty} (hd : decT d = some t) (σ : Src) (o : OD) : (RL D ns h 60).ss laF.sc (setV (nm "t") d (B5 xs D.world (nmL (empL D)))) (oL o σ D) [laI] = some (.next, B6 xs D.world (nmL (empL D)) d, oL o σ D) := by
  rw [la_set6]
  have hp : (RL D ns h 58).t laF.sc (B6 xs D.world (nmL (empL D)) d) (oL o σ D) laP = some (false, oL o σ D) :=
    T_cmp (R := RL D ns h 57) laP_is (by kernel_rfl) ((la_6a D ns h xs _ _ d _).trans (RL_prim (callL_has hd))) ((la_6b D ns h xs _ _ d _).trans (RL_prim (callL_emp hd))) (eq_not _ _)
  have hq : (RL D ns h 58).t laF.sc (B6 xs D.world (nmL (empL D)) d) (oL o σ D) laQ = some (false, oL o σ D) :=
    T_cmp (R := RL D ns h 57) laQ_is (by kernel_rfl) ((la_6c D ns h xs _ _ d _).trans (RL_prim (callL_ways hd))) ((la_6d D ns h xs _ _ d _).trans (RL_prim (callL_law hd rfl))) (ne_self _)
  exact SS_next (R := RL D ns h 59) (r := []) ((S_if laI_is (T_or (R := RL D ns h 58) laT6_is hp hq)).trans rfl)
end

noncomputable def laY : Expr := foI (laS 6)
theorem laY_is : laY = .Tuple [tuX laY 0, tuX laY 1] (tuK laY) (tuP laY) := by kernel_rfl
section
variable (D : Decl) (ns : List Int) (h : ns.length ≤ 63) (xs : List AV)
theorem la_y0 (W E : AV) (σ : Src) (o p : OD) : (RL D ns h 59).e laF.sc (B5 xs W E) [o, .src σ, p] (tuX laY 0) = some (.ty σ.typ, [o, .src σ.tnx, p]) := by kernel_rfl
theorem la_y1 (W E : AV) (own : Own) : (RL D ns h 59).e laF.sc (B5 xs W E) own (tuX laY 1) = (RL D ns h 58).call (.val (.ref 191)) [.loc 1, .lst ([Ty.base .A, Ty.base .B].map enc)] own := by kernel_rfl
theorem RL_one {k i : Nat} {σ : Src} {ts : List Ty} {own : Own} (hi : own[i]? = some (.src σ)) (h1 : 1 ≤ ts.length) (h9 : ts.length ≤ 9) : ∃ t : Ty, (RL D ns h (k + 1)).call (.val (.ref 191)) [.loc i, .lst (ts.map enc)] own = some (enc t, own.set i (.src (σ.nxt ts.length))) :=
  (callB_one enc hi h1 h9 (closeds_enc ts)).imp fun _ q => RL_prim (callL_D D (by decide) (pAt_no rfl (pAt_no rfl q)))
theorem la_ysrc (W E : AV) (own : Own) : (RL D ns h 60).src laF.sc (B5 xs W E) own laY = (stepE (RL D ns h 59) laF.sc (B5 xs W E) own laY).bind fun r => (seq? r.1).map fun xs => (xs, r.2) := by kernel_rfl
theorem la_ys (W E : AV) (σ : Src) (o p : OD) : ∃ (t t' : Ty) (σ' : Src), (RL D ns h 60).src laF.sc (B5 xs W E) [o, .src σ, p] laY = some ([.ty t, enc t'], [o, .src σ', p]) := by
  obtain ⟨t', ht⟩ := RL_one D ns h (k := 57) (i := 1) (σ := σ.tnx) (ts := [Ty.base .A, Ty.base .B]) (own := [o, .src σ.tnx, p]) rfl (by decide) (by decide)
  refine ⟨σ.typ, t', σ.tnx.nxt 2, (la_ysrc D ns h xs W E _).trans ?_⟩
  rw [E_two (R := RL D ns h 59) laY_is (by kernel_rfl) (by kernel_rfl) (la_y0 D ns h xs W E σ o p) ((la_y1 D ns h xs W E _).trans ht)]; rfl
theorem la_6 (σ : Src) (o : OD) : ∃ σ', stepS (RL D ns h 60) laF.sc (B5 xs D.world (nmL (empL D))) (oL o σ D) (laS 6) = some (.next, B5 xs D.world (nmL (empL D)), oL o σ' D) := by
  obtain ⟨t, t', σ', hs⟩ := la_ys D ns h xs D.world (nmL (empL D)) σ o D.toldO
  have hw : isClo D.world = false := rfl
  refine ⟨σ', (S_for laS6_is ?_ hs).trans ((forGo_next (vs := B5 xs D.world (nmL (empL D))) (vs' := B6 xs D.world (nmL (empL D)) (.ty t)) (la_6body D ns h xs rfl σ' o) (no_clo hw)).trans ?_)⟩
  · rw [show ((B5 xs D.world (nmL (empL D))).all fun v => !isClo v.2) = true from no_clo hw]; kernel_rfl
  · exact forGo_next (vs := B5 xs D.world (nmL (empL D))) (vs' := B6 xs D.world (nmL (empL D)) (enc t')) (la_6body D ns h xs (decT_enc t') σ' o) (no_clo2 hw t')
theorem la_7 (W E : AV) (own : Own) : stepS (RL D ns h 60) laF.sc (B5 xs W E) own (laS 7) = some (.ret (.bool true), B5 xs W E, own) := by kernel_rfl
end
theorem rl_ss (D : Decl) (ns : List Int) (h : ns.length ≤ 63) (vs : Vars) (own : Own) (b : List Stmt) : (RL D ns h 61).ss laF.sc vs own b = stepSs (RL D ns h 60) laF.sc vs own b := rfl
theorem law_run (ns : List Int) (h : ns.length ≤ 63) : ∃ (vs' : Vars) (own' : Own), (RL (declOf (pool ns h)) ns h 61).ss laF.sc (B0 (ns.map .int)) [] laF.body = some (.ret (.bool true), vs', own') := by
  have h3 := la_3 (declOf (pool ns h)) ns h (ns.map .int) w0 rfl (pool ns h) (.dct [])
  generalize declOf (pool ns h) = D at h3 ⊢
  obtain ⟨σ', h6⟩ := la_6 D ns h (ns.map .int) (σB (pool ns h)) (.dct [])
  refine ⟨B5 (ns.map .int) D.world (nmL (empL D)), oL (.dct []) σ' D, ?_⟩
  rw [laF_b, rl_ss, SS_next (la_0 D ns h _), SS_next (la_1 D ns h _), SS_next (la_2 D ns h), SS_next h3, SS_next (la_4 D ns h _ w0 rfl (σB (pool ns h)) (.dct [])), SS_next (la_5 D ns h _ _ _), SS_next h6]
  exact SS_ret (la_7 D ns h _ _ _ _)

section
variable {w : World} {base h₁ : Heap} {mg mb : Str → Option Value} {L l : Addr} {vs : List Value} {ns : List Int} {p : Program} {loose : List Str} {mean : ExcName → Option Value}

theorem gd_of (X : (KK w).In base) (T : Top p loose mean mg mb base) (hd : CodeHd base 85 83) (hno : base.get? 83 = none) : Gd w base mg mb where
  kin := X
  g := T.g
  b := T.b
  bi := T.builtins
  lim := T.nolimit
  hd := hd
  bat := by
    obtain ⟨bm, ob, a1, a2, a3, a4, a5, a6⟩ := T.bmain
    refine ⟨bm, ob, a1, a2, fun q => ?_, fun q => ?_, a3, a4, a5, a6⟩
    · obtain ⟨o, es, ep, e, hd', _⟩ := T.g
      rw [q, e] at a3
      cases a3
      rw [a6] at hd'; cases hd'
    · rw [q, hno] at a3; cases a3
  no := hno

theorem ints_vr {h : Heap} {X μ : List Addr} : ∀ {vs : List Value} {ns : List Int}, IntsAre vs ns → VRs w h X μ (ns.map .int) vs
  | _, _, .nil => .nil
  | _, _, .cons n t r => .cons (.int n t) (ints_vr r)

theorem triples_nil : TriplesOk (#[] : Array Value).toList := by first | trivial | exact .nil | simp [TriplesOk]
theorem exact_list {P : Params} {h : Heap} {t : List Addr} {xs : List WData} {its : Array Value} (w1 : Well P h (.ref l) (.list xs)) (hl : (hideAll h t).IsList l its) : (hideAll h t).get? l = some { cls := .type "list", data := .seq its } := by
  obtain ⟨o, e, _, n, hd⟩ := hl
  have e' := of_hideAll _ e
  cases w1 with
  | list e2 _ =>
    rw [e2] at e'
    cases e'
    simp only [Data.seq.injEq] at hd
    rw [e, ← hd.1]

theorem start {env : Env} (F : Fr base L h₁ (fun x => List.lookup x [(nm "script", Value.ref l)].reverse)) (N : News base L h₁ [(83, tabObj #[])]) (hL : @LT.lt Nat _ 83 L) (hl : base.get? l = some { cls := .type "list", data := .seq vs.toArray }) (hI : IntsAre vs ns)
    (e1 : env.locals = L) (e2 : env.cells = []) (e3 : ∀ x, env.kindOf x = some .local ∨ env.kindOf x = some .globalImplicit ∨ env.kindOf x = none) (e4 : env.kindOf (nm "script") = some .local) : SRs w base env [83, L] [] (B0 (ns.map .int)) [] h₁ := by
  have n83 := N _ (.head _)
  have bL : base.get? L = none := by
    cases q : base.get? L with
    | none => rfl
    | some o => exact absurd (Heap.lt_size q) (Nat.not_lt.mpr F.above)
  obtain ⟨oL, hoL⟩ : ∃ o, h₁.get? L = some o := let ⟨o, _, _, e, _⟩ := F.ns; ⟨o, e⟩
  have hlX : l ∉ ([83, L] : List Addr) := fun q => by
    rcases List.mem_cons.mp q with q | q
    · rw [q, n83.2.2] at hl; cases hl
    · rw [List.mem_singleton.mp q, bL] at hl; cases hl
  refine ⟨⟨F.keep, fun a ha => ?_, List.mem_cons_self, ?_, .nil, (fun a ha => by cases ha), ?_, ?_, ?_, fun x d e k => ?_⟩, fun _ x c e => (by rw [e2] at e; cases e), fun x c e => (by rw [e2] at e; cases e), fun x y c e _ => (by rw [e2] at e; cases e), fun c hc => (by simp [cellsOf, e2] at hc)⟩
  · rcases List.mem_cons.mp ha with q | q
    · rw [q]; exact ⟨n83.2.2, Nat.le_refl _, _, n83.1⟩
    · rw [List.mem_singleton.mp q]; exact ⟨bL, Nat.le_of_lt hL, oL, hoL⟩
  · refine ⟨#[], n83.1, ?_, fun cv h => ?_⟩
    · exact triples_nil
    · cases h
  · rw [e1]
    simp only [List.nodup_cons, List.mem_singleton, List.not_mem_nil, not_false_eq_true, List.nodup_nil, and_true]
    exact Nat.ne_of_lt hL
  · rw [e1]; exact .tail _ (.head _)
  · rw [e1]
    refine ⟨_, F.ns, fun x d e _ => ?_⟩
    have : x = nm "script" ∧ d = .lst (ns.map .int) := by
      unfold B0 at e
      rw [List.lookup_cons] at e
      split at e
      · rename_i q
        cases e
        exact ⟨beq_iff_eq.mp q, rfl⟩
      · cases e
    obtain ⟨rfl, rfl⟩ := this
    refine ⟨.ref l, ?_, .lst ⟨0, F.keep _ _ hl⟩ hlX (ints_vr hI)⟩
    simp
  · exfalso
    unfold B0 at e
    rw [List.lookup_cons] at e
    split at e
    · rename_i q
      exact k (by rw [beq_iff_eq.mp q]; exact e4)
    · cases e

theorem glue {s₁ s : Shared} {c : ClaimW} {cl : Str → Option Addr} {mean' : ExcName → Option Value} {args : List WData} {E : Value → Shared → Prop} {qual : Str} {scope : Scope} {body : List Stmt} {fa : Addr} {cd : Value} (hsc : scope = laF.sc) (hbody : body = laF.body)
    (X : (KK w).In base) (T : Top p loose mean mg mb base) (hd : CodeHd base 85 83) (F : Fr base L s.heap (fun x => List.lookup x [(nm "script", Value.ref l)].reverse)) (N : News base L s.heap [(83, tabObj #[])]) (hL : @LT.lt Nat _ 83 L)
    (hl : base.get? l = some { cls := .type "list", data := .seq vs.toArray }) (hI : IntsAre vs ns) (hn : ns.length ≤ 63) (h1 : s₁.heap = base) (hg : s.gens = #[]) (hos : s.os = s₁.os) (hr : ∀ cls, c.raises args cls = false) (hp : c.post args (.bool true) args = true) :
    wpAny (model P0 w) (callerA.deeper (envOf qual scope L fa cd)) (execs body (envOf qual scope L fa cd)) (fun f s' => GoodW c cl mean' args s₁ (.ok (.ret (match f with | .ret v => v | _ => .none))) s' ∧ GrownAll [(85, 83)] s'.heap) E s := by
  subst hsc hbody
  have n83 := N _ (.head _)
  have G := gd_of X T hd n83.2.2
  have hD := declOf_ok (pool ns hn)
  have S := (sound_run (P := prL (declOf (pool ns hn)) ns hn) G (scL G (declOf (pool ns hn)) hD) (calL (declOf (pool ns hn))) ((sfL G ns hn).up (by decide)) (calFL ns hn) 61).ss
  obtain ⟨vs', own', hrun⟩ := law_run ns hn
  have hkind : ∀ x : Str, laF.sc.names.lookup x = some .local ∨ laF.sc.names.lookup x = some .globalImplicit ∨ laF.sc.names.lookup x = none := fun x => by
    cases q : laF.sc.names.lookup x with
    | none => exact .inr (.inr rfl)
    | some k =>
      have hall : (laF.sc.names.all fun y => y.2 == .local || y.2 == .globalImplicit) = true := by decide +kernel
      have := List.all_eq_true.mp hall (x, k) (lookup_mem q)
      simp only [Bool.or_eq_true, beq_iff_eq] at this
      rcases this with q | q
      · exact .inl (by rw [q])
      · exact .inr (.inl (by rw [q]))
  have nocell : ∀ x, laF.sc.names.lookup x ≠ some .cell ∧ laF.sc.names.lookup x ≠ some .free := fun x => by
    rcases hkind x with q | q | q <;> rw [q] <;> exact ⟨fun z => (by cases z), fun z => (by cases z)⟩
  have ok : EnvOk (envOf qual laF.sc L fa cd) := ⟨by show laF.sc.kind = .function; decide +kernel, rfl, rfl, fun x h => h.elim (fun z => absurd z (nocell x).1) fun z => absurd z (nocell x).2, fun h => absurd h (nocell _).1⟩
  have room : Room (callerA.deeper (envOf qual laF.sc L fa cd)) (113 + 61) := ⟨rfl, (by show callerA.depth + 1 + (113 + 61) < recursionLimit; decide +kernel), (by show callerA.units + 3 + 8 * (113 + 61) + 80 < cLine; decide +kernel)⟩
  have Sr := start (w := w) (env := envOf qual laF.sc L fa cd) F N hL hl hI rfl rfl hkind (by show laF.sc.names.lookup (nm "script") = some .local; decide +kernel)
  refine wpAny_mono (S.ok (env := envOf qual laF.sc L fa cd) hrun ok room Sr) (fun f s' q => ?_) fun _ _ e => e.elim
  obtain ⟨X', μ', h', tk, rfl, T', g, S', fl⟩ := q
  obtain ⟨v, rfl, rv⟩ := fl
  cases rv
  refine ⟨⟨.inl ⟨_, .bool true, [], rfl, hr, .bool true, hp, fun _ => ⟨.nil, fun a ha => by cases ha⟩⟩, fun b o e => S'.sr.stays b o (by rw [← h1]; exact e), hos, hg⟩, ?_, trivial⟩
  obtain ⟨ps, e, _⟩ := S'.sr.tab
  exact ⟨ps, e⟩
end
end Mine
theorem PySem.Challenge.cw_xm0597_01_holds : PySem.Challenge.rw_xm0597_01.Holds := by
  w_on
  refine holds_law (by decide +kernel) fun said => ?_
  refine holds_open (q := Mine.vw) (loose := Mine.loose) (Xt := fun s => xlAt Mine.vw [] s && recOk (RowW.records Mine.rowR.toRowW) s) (XP := XL Mine.vw []) (Yf := Hook.obs (kmHook Mine.KF.heap_1 Mine.fas Mine.fas_eq [83])) (Ya := Hook.val (kmHook Mine.KF.heap_1 Mine.fas Mine.fas_eq [83])) (YP := Hook.says (kmHook Mine.KF.heap_1 Mine.fas Mine.fas_eq [83])) (N := 3252) Mine.left (Hook.of (kmHook Mine.KF.heap_1 Mine.fas Mine.fas_eq [83])) (Hook.keeps (kmHook Mine.KF.heap_1 Mine.fas Mine.fas_eq [83]))
    (fun s e => xl_of s (Bool.and_eq_true_iff.mp e).1) XL.keeps (by rfl) (by rfl) (by rfl) (fun s e => recFacts_of (Bool.and_eq_true_iff.mp e).2) (by rfl) said (by decide +kernel) ⟨rfl, rfl, rfl, rfl, rfl, by decide +kernel⟩ ?hw ?hc
  case hw => w_witness2
  case hc =>
    k_go0
    refine' Mine.glue ?hsc ?hbody ?X ?T ?hd ?F ?N ?hL ?hl ?hI ?hn rfl ?hg rfl ?hr ?hp
    case X => assumption
    case T => assumption
    case hd => assumption
    case F => assumption
    case N => assumption
    case hL => assumption
    case hl => exact Mine.exact_list ‹Well _ _ _ _› ‹_›
    case hI => assumption
    case hn => omega
    case hg => assumption
    case hsc => rfl
    case hbody => rfl
    case hr => intro cls; rfl
    case hp => first | law_fin | (with_unfolding_all rfl) | (simp; done)
