import PyProof.Rows.All
import HandS.ForMost
import HandS.Deep
import HandS.WordsExc
import HandS.CallSlots
import HandS.Wide
import HandS.IsInst
import HandS.Flow
import HandS.Style
import HandS.TupAny
import HandS.SortInts
import HandS.TryOnly
import PyProof.MaxThree
import HandS.Head0
import HandS.Head1
import HandS.Head2
import HandS.HeadEnd
import HandS.HeadHook1
import HandS.HeadHook2
import KE.KSortedM
import OpenK.AllK
import Wide.All
import Wide.FinOn
import KE.KStateDown
import PySem.Challenge.RW_labeltill_k57_whole_rules_beside_one_ano
set_option Elab.async false
set_option linter.all false
set_option maxRecDepth 100000
set_option maxHeartbeats 4000000
namespace LT
open PySem PySem.Spec PyProof.Rows L2

inductive Bt where
  | len | abs | max | min | int | list | tuple | sum | all | any | sorted
  deriving DecidableEq
def Bt.nm : Bt → Str
  | .len => "len" | .abs => "abs" | .max => "max" | .min => "min" | .int => "int" | .list => "list" | .tuple => "tuple"
  | .sum => "sum" | .all => "all" | .any => "any" | .sorted => "sorted"
inductive Mt where
  | append | extend
  deriving DecidableEq
def Mt.nm : Mt → Str
  | .append => "append" | .extend => "extend"
inductive CT where
  | name (i : Nat)
  | tup (ts : List CT)
mutual
inductive CE where
  | var (i : Nat)
  | cst (c : Const)
  | tup (es : List CE)
  | lst (es : List CE)
  | bin (op : Operator) (a b : CE)
  | neg (a : CE)
  | notV (a : CE)
  | andV (a b : CE)
  | orV (a b : CE)
  | ite (c : CB) (a b : CE)
  | cmp (op : CmpOp) (a b : CE)
  | chain (o1 o2 : CmpOp) (a b c : CE)
  | call (f : Nat) (es : List CE)
  | blt (b : Bt) (es : List CE)
  | ix (a b : CE)
  | slA (a : CE)
  | slF (a lo : CE)
  | slT (a hi : CE)
  | slFT (a lo hi : CE)
  | rev (a : CE)
  | bm (m : Mt) (o : CE) (es : List CE)
  | lc (elt : CE) (tg : CT) (it : CI) (own : List (Str × Nat))
  | lcIf (elt : CE) (tg : CT) (it : CI) (c : CB) (own : List (Str × Nat))
inductive CB where
  | not (a : CB)
  | and (a b : CB)
  | or (a b : CB)
  | cmp (op : CmpOp) (a b : CE)
  | chain (o1 o2 : CmpOp) (a b c : CE)
  | tru (a : CE)
inductive CI where
  | seq (e : CE)
  | rng1 (a : CE)
  | rng2 (a b : CE)
  | enum (a : CE)
  | zip (a b : CE)
end
inductive CS where
  | pass
  | expr (e : CE)
  | ret (e : CE)
  | retN
  | ifs (c : CB) (a b : List CS)
  | asg (t : CT) (e : CE)
  | asgO (i : Nat) (e : CE)
  | fz (is : List Nat)
  | par2 (oi oj : Bool) (i j : Nat) (a b : CE)
  | par3 (oi oj ol : Bool) (i j l : Nat) (a b c : CE)
  | aug (i : Nat) (op : Operator) (e : CE)
  | setIx (o i e : CE)
  | augIx (o i : CE) (op : Operator) (e : CE)
  | forS (t : CT) (it : CI) (body : List CS)

def rBin (K : PySem.W.Frag) : Operator → R2
  | .Add => fun x y H Q => (rI0 fun i j => .int (i + j)) x y H Q ∨ rCat x y H Q ∨ rCatA K x y H Q ∨ (∃ i j : Str, x = .str i ∧ y = .str j ∧ i.length + j.length ≤ sizeLine ∧ Q (.str (i ++ j)) H)
  | .Sub => rI0 fun i j => .int (i - j)
  | .Mult => fun x y H Q => (rI CMulW fun i j => .int (i * j)) x y H Q ∨ (rI CMul fun i j => .int (i * j)) x y H Q ∨ rRep x y H Q
  | .FloorDiv => rI CDivW fun i j => .int (i / j)
  | .Mod => rI (fun _ j => 0 < j) fun i j => .int (i % j)
  | .Pow => rI CPow fun i j => .int (i ^ j.toNat)
  | _ => fun _ _ _ _ => False
def rCmp (K : PySem.W.Frag) : CmpOp → R2
  | .Eq => fun x y H Q => rEq x y H Q ∨ rEqD K x y H Q
  | .NotEq => fun x y H Q => rNe x y H Q ∨ rNeD K x y H Q
  | .Lt => fun x y H Q => (rI0 fun i j => .bl (decide (i < j))) x y H Q ∨ rLtT K x y H Q
  | .LtE => rI0 fun i j => .bl (decide (i ≤ j))
  | .Gt => rI0 fun i j => .bl (decide (j < i))
  | .GtE => rI0 fun i j => .bl (decide (j ≤ i))
  | .Is => fun x y H Q => y = .non ∧ Q (.bl (decide (x = .non))) H
  | .IsNot => fun x y H Q => y = .non ∧ Q (.bl (!decide (x = .non))) H
  | .In => fun x y H Q => rIn K false x y H Q ∨ rInD K x y H Q
  | .NotIn => fun x y H Q => rIn K true x y H Q ∨ rNotInD K x y H Q
def max3 (a b c : Int) : Int := if b > a then (if c > b then c else b) else (if c > a then c else a)
def min3 (a b c : Int) : Int := if b < a then (if c < b then c else b) else (if c < a then c else a)
def rBlt (K : PySem.W.Frag) : Bt → List V → Hp → VK → Prop
  | .len => fun xs H Q => (∃ p ys, xs = [.ref p] ∧ (SqL K H p ys ∨ SqT K H p ys) ∧ Q (.int ys.length) H) ∨ ∃ z : Str, xs = [.str z] ∧ z.length ≤ sizeLine ∧ Q (.int z.length) H
  | .abs => fun xs H Q => ∃ i, xs = [.int i] ∧ Q (.int (if i < 0 then -i else i)) H
  | .max => fun xs H Q => (∃ i j, xs = [.int i, .int j] ∧ Q (.int (if j > i then j else i)) H) ∨ rMax K xs H Q ∨ ∃ i j k, xs = [.int i, .int j, .int k] ∧ Q (.int (max3 i j k)) H
  | .min => fun xs H Q => (∃ i j, xs = [.int i, .int j] ∧ Q (.int (if j < i then j else i)) H) ∨ rMin K xs H Q ∨ ∃ i j k, xs = [.int i, .int j, .int k] ∧ Q (.int (min3 i j k)) H
  | .int => fun xs H Q => (∃ i, xs = [.int i] ∧ Q (.int i) H) ∨ ∃ k, xs = [.bl k] ∧ Q (.int (if k then 1 else 0)) H
  | .list => fun xs H Q => ∃ p ys, xs = [.ref p] ∧ (SqL K H p ys ∨ SqT K H p ys) ∧ ∀ l, H l = none → Q (.ref l) (upd H l (.lst ys))
  | .tuple => fun xs H Q => ∃ p ys, xs = [.ref p] ∧ ((SqL K H p ys ∧ ∀ l, H l = none → Q (.ref l) (upd H l (.tup ys))) ∨ (SqT K H p ys ∧ Q (.ref p) H))
  | .sum => rSum K
  | .all => rAll K
  | .any => rAny K
  | .sorted => rSortedI K
def rMt : Mt → V → List V → Hp → VK → Prop
  | .append => rAppend
  | .extend => rExtend
def rSl (K : PySem.W.Frag) : V → Option Int → Option Int → Hp → VK → Prop := fun x lo hi H Q => rSlL K x lo hi H Q ∨ rSlA K x lo hi H Q ∨ rSlS x lo hi H Q
def W0 : WX := fun _ _ _ _ => False
def tCst : Const → TE
  | .int i => tC (.int i)
  | .bool b => tC (.bl b)
  | .none => tC .non
  | .str s => tC (.str s)
  | _ => fun _ _ _ => False
def tTru (K : PySem.W.Frag) (te : TE) : TT := fun σ H Q => te σ H fun x H' => ∃ k, TruV K x H' k ∧ Q k H'
def iSeq (K : PySem.W.Frag) (te : TE) : TI := fun σ H R => iList K te σ H R ∨ iTup K te σ H R ∨ iStr te σ H R
mutual
def semG (K : PySem.W.Frag) : CT → TG
  | .name i => gName i
  | .tup ts => fun v σ H Q => gTup K (CT.lens ts) (semGs K ts) v σ H Q ∨ gLst K (CT.lens ts) (semGs K ts) v σ H Q
def semGs (K : PySem.W.Frag) : List CT → TGs
  | [] => gNil
  | t :: ts => gCons (semG K t) (semGs K ts)
def CT.lens : List CT → Nat
  | [] => 0
  | _ :: ts => CT.lens ts + 1
end
mutual
def semE (Γ : Nat → Sp) (K : PySem.W.Frag) : CE → WX → TE
  | .var i, _ => tVar i
  | .cst c, _ => tCst c
  | .tup es, W => tTup (semA Γ K es W)
  | .lst es, W => tLst (semA Γ K es W)
  | .bin op a b, W => tOp (rBin K op) (semE Γ K a W) (semE Γ K b W)
  | .neg a, W => tUn (rU fun i => .int (-i)) (semE Γ K a W)
  | .notV a, W => fun σ H Q => semE Γ K a W σ H fun x H1 => ∃ k, TruV K x H1 k ∧ Q (.bl (!k)) H1
  | .andV a b, W => fun σ H Q => semE Γ K a W σ H fun x H1 => ∃ k, TruV K x H1 k ∧ if k = true then semE Γ K b W σ H1 Q else Q x H1
  | .orV a b, W => fun σ H Q => semE Γ K a W σ H fun x H1 => ∃ k, TruV K x H1 k ∧ if k = true then Q x H1 else semE Γ K b W σ H1 Q
  | .ite c a b, W => tIf (semB Γ K c W) (semE Γ K a W) (semE Γ K b W)
  | .cmp op a b, W => tOp (rCmp K op) (semE Γ K a W) (semE Γ K b W)
  | .chain o1 o2 a b c, W => tChain (rCmp K o1) (rCmp K o2) (semE Γ K a W) (semE Γ K b W) (semE Γ K c W)
  | .call f es, W => tCallSD (Γ f) [] (WE W) (semA Γ K es W)
  | .blt b es, W => tCB (rBlt K b) (semA Γ K es W)
  | .ix a b, W => tOp (rIx K) (semE Γ K a W) (semE Γ K b W)
  | .slA a, W => tSl (rSl K) (semE Γ K a W) tNoPart tNoPart
  | .slF a lo, W => tSl (rSl K) (semE Γ K a W) (tPart (semE Γ K lo W)) tNoPart
  | .slT a hi, W => tSl (rSl K) (semE Γ K a W) tNoPart (tPart (semE Γ K hi W))
  | .slFT a lo hi, W => tSl (rSl K) (semE Γ K a W) (tPart (semE Γ K lo W)) (tPart (semE Γ K hi W))
  | .rev a, W => tRevL K (semE Γ K a W)
  | .bm m o es, W => tBM K "list" (rMt m) (semE Γ K o W) (semA Γ K es W)
  | .lc elt tg it own, W => tLc (semI Γ K it W) (semG K tg) tYes (semE Γ K elt W0) (own.map (·.2))
  | .lcIf elt tg it c own, W => tLc (semI Γ K it W) (semG K tg) (semB Γ K c W0) (semE Γ K elt W0) (own.map (·.2))
def semA (Γ : Nat → Sp) (K : PySem.W.Frag) : List CE → WX → TA
  | [], _ => tNil
  | e :: es, W => tCons (semE Γ K e W) (semA Γ K es W)
def semB (Γ : Nat → Sp) (K : PySem.W.Frag) : CB → WX → TT
  | .not a, W => tNot (semB Γ K a W)
  | .and a b, W => tAnd (semB Γ K a W) (semB Γ K b W)
  | .or a b, W => tOr (semB Γ K a W) (semB Γ K b W)
  | .cmp op a b, W => tTest (tOp (rCmp K op) (semE Γ K a W) (semE Γ K b W))
  | .chain o1 o2 a b c, W => tTest (tChain (rCmp K o1) (rCmp K o2) (semE Γ K a W) (semE Γ K b W) (semE Γ K c W))
  | .tru a, W => tTru K (semE Γ K a W)
def semI (Γ : Nat → Sp) (K : PySem.W.Frag) : CI → WX → TI
  | .seq e, W => iSeq K (semE Γ K e W)
  | .rng1 a, W => iRng1 (tCons (semE Γ K a W) tNil)
  | .rng2 a b, W => iRng2 (tCons (semE Γ K a W) (tCons (semE Γ K b W) tNil))
  | .enum a, W => iEnum K (tCons (semE Γ K a W) tNil)
  | .zip a b, W => iZip K (tCons (semE Γ K a W) (tCons (semE Γ K b W) tNil))
end
def rIp (K : PySem.W.Frag) : Operator → TIp
  | .Add => fun x y H Q => (ipI fun i j => i + j) x y H Q ∨ rExt2 x y H Q
  | .Sub => ipI fun i j => i - j
  | _ => fun _ _ _ _ => False
mutual
def semS (Γ : Nat → Sp) (K : PySem.W.Frag) : CS → WX → TS
  | .pass, _ => tNext
  | .expr e, W => tDrop (semE Γ K e W)
  | .ret e, W => tRet (semE Γ K e W)
  | .retN, _ => tRetN
  | .ifs c a b, W => tIfS (semB Γ K c W) (semSs Γ K a W) (semSs Γ K b W)
  | .asg t e, W => tAsg (semE Γ K e W) (semG K t)
  | .asgO i e, W => tAsg (semE Γ K e W) (gName i)
  | .fz _, _ => tNext
  | .par2 _ _ i j a b, W => tPar i j (semA Γ K [a, b] W)
  | .par3 _ _ _ i j l a b c, W => tPar3 i j l (semA Γ K [a, b, c] W)
  | .aug i op e, W => tAug i (semE Γ K e W) (rIp K op)
  | .setIx o i e, W => tAsg (semE Γ K e W) (gSub (semE Γ K o W) (semE Γ K i W) rSetL)
  | .augIx o i op e, W => tAugS (semE Γ K o W) (semE Γ K i W) (semE Γ K e W) (rIxL K) (rIp K op) rSetL
  | .forS t it body, W => tFor (semI Γ K it W) (semG K t) (semSs Γ K body W)
def semSs (Γ : Nat → Sp) (K : PySem.W.Frag) : List CS → WX → TS
  | [], _ => tNext
  | s :: ss, W => tSeq (semS Γ K s W) (semSs Γ K ss W)
end
end LT

namespace LT
open PySem PySem.Spec PyProof.Rows L2

def isStar : Expr → Bool
  | .Starred _ _ => true
  | _ => false
def isSet : Expr → Bool
  | .Set _ _ _ => true
  | _ => false
def isSlice : Expr → Bool
  | .Slice _ _ _ _ => true
  | _ => false
def isCall0 : Expr → Bool
  | .Call (.Name _ _) [] [] _ => true
  | _ => false
def plainTest : Expr → Bool
  | .UnaryOp .Not _ _ => false
  | .BoolOp _ _ _ => false
  | .IfExp _ _ _ _ => false
  | .Compare _ _ _ _ => false
  | _ => true
def isLComp : Expr → Bool
  | .ListComp _ _ _ _ => true
  | .SetComp _ _ _ _ => true
  | .DictComp _ _ _ _ _ => true
  | _ => false
def visB (sc : Scope) (x : Str) : Bool := match sc.names.lookup x with
  | some .local => true
  | some .cell => true
  | some .free => true
  | _ => false
def locB (sc : Scope) (x : Str) : Bool := match sc.names.lookup x with
  | some .local => true
  | some .cell => true
  | _ => false
def lclB (sc : Scope) (x : Str) : Bool := match sc.names.lookup x with
  | some .local => true
  | _ => false
def glB (sc : Scope) (x : Str) : Bool := match sc.names.lookup x with
  | some .globalImplicit => true
  | _ => false
def okName (x : Str) : Bool := !(x == ("__debug__" : Str)) && !(x == ("__classdict__" : Str))
theorem visB_ok {sc : Scope} {x : Str} (h : visB sc x = true) : Vis sc x := by
  unfold visB at h
  unfold Vis
  split at h <;> first | (rename_i e; rw [e]; simp) | cases h
theorem locB_ok {sc : Scope} {x : Str} (h : locB sc x = true) : L2.Loc sc x := by
  unfold locB at h
  unfold L2.Loc
  split at h <;> first | (rename_i e; rw [e]; simp) | cases h
theorem lclB_ok {sc : Scope} {x : Str} (h : lclB sc x = true) : sc.names.lookup x = some .local := by
  unfold lclB at h
  split at h <;> first | assumption | cases h
theorem glB_ok {sc : Scope} {x : Str} (h : glB sc x = true) : sc.names.lookup x = some .globalImplicit := by
  unfold glB at h
  split at h <;> first | assumption | cases h

def beqOp (a b : Operator) : Bool := decide (a = b)
def beqCmp (a b : CmpOp) : Bool := decide (a = b)
def notInB : CmpOp → Bool
  | .In => false
  | .NotIn => false
  | _ => true
mutual
def chkT (N : List Str) (fb : Str → Bool) (sc : Scope) : CT → Expr → Bool
  | .name i, e => match e with
    | .Name x _ => decide (N[i]? = some x) && (locB sc x && (fb x || lclB sc x))
    | _ => false
  | .tup ts, e => match e with
    | .Tuple es _ _ => chkTs N fb sc ts es
    | _ => false
def chkTs (N : List Str) (fb : Str → Bool) (sc : Scope) : List CT → List Expr → Bool
  | [], es => match es with
    | [] => true
    | _ => false
  | t :: ts, es => match es with
    | [] => false
    | e :: es => chkT N fb sc t e && chkTs N fb sc ts es
end
def relab (scope sc : Scope) : Scope := { scope with names := scope.names.map fun (n, k) => if (k == .free && sc.kind == .function && sc.names.lookup n == some .cell) then (n, .cell) else (n, k) }
def fbOf (scope : Scope) (x : Str) : Bool := scope.names.lookup x == some .cell
mutual
def chkE (F : Nat → Option Str) (N : List Str) : CE → Scope → Expr → Bool
  | .var i, sc, e => match e with
    | .Name x _ => decide (N[i]? = some x) && (visB sc x && okName x)
    | _ => false
  | .cst c, sc, e => match e with
    | .Constant c' _ _ => decide (c = c')
    | _ => false
  | .tup es, sc, e => match e with
    | .Tuple es' _ _ => chkA F N es sc es'
    | _ => false
  | .lst es, sc, e => match e with
    | .List es' _ => chkA F N es sc es'
    | _ => false
  | .bin op a b, sc, e => match e with
    | .BinOp a' op' b' _ => beqOp op op' && (chkE F N a sc a' && chkE F N b sc b')
    | _ => false
  | .neg a, sc, e => match e with
    | .UnaryOp .USub a' _ => chkE F N a sc a'
    | _ => false
  | .notV a, sc, e => match e with
    | .UnaryOp .Not a' _ => chkE F N a sc a'
    | _ => false
  | .andV a b, sc, e => match e with
    | .BoolOp .And [a', b'] _ => chkE F N a sc a' && chkE F N b sc b'
    | .BoolOp .And (a' :: b' :: c' :: rest) p => chkE F N a sc a' && chkE F N b sc (.BoolOp .And (b' :: c' :: rest) p)
    | _ => false
  | .orV a b, sc, e => match e with
    | .BoolOp .Or [a', b'] _ => chkE F N a sc a' && chkE F N b sc b'
    | .BoolOp .Or (a' :: b' :: c' :: rest) p => chkE F N a sc a' && chkE F N b sc (.BoolOp .Or (b' :: c' :: rest) p)
    | _ => false
  | .ite c a b, sc, e => match e with
    | .IfExp c' a' b' _ => chkB F N c sc c' && (chkE F N a sc a' && chkE F N b sc b')
    | _ => false
  | .cmp op a b, sc, e => match e with
    | .Compare a' [op'] [b'] _ => beqCmp op op' && (!isSet b' && (chkE F N a sc a' && chkE F N b sc b'))
    | _ => false
  | .chain o1 o2 a b c, sc, e => match e with
    | .Compare a' [p1, p2] [b', c'] _ => beqCmp o1 p1 && (beqCmp o2 p2 && (!isSet c' && (chkE F N a sc a' && (chkE F N b sc b' && chkE F N c sc c'))))
    | _ => false
  | .call f es, sc, e => match e with
    | .Call (.Name x _) (e1 :: es') [] _ => decide (F f = some x) && (glB sc x && (okName x && chkA F N es sc (e1 :: es')))
    | _ => false
  | .blt b es, sc, e => match e with
    | .Call (.Name x _) (e1 :: es') [] _ => decide (b.nm = x) && (glB sc x && chkA F N es sc (e1 :: es'))
    | _ => false
  | .ix a b, sc, e => match e with
    | .Subscript a' b' _ => !isSlice b' && (chkE F N a sc a' && chkE F N b sc b')
    | _ => false
  | .slA a, sc, e => match e with
    | .Subscript a' (.Slice none none none _) _ => chkE F N a sc a'
    | _ => false
  | .slF a lo, sc, e => match e with
    | .Subscript a' (.Slice (some lo') none none _) _ => chkE F N a sc a' && chkE F N lo sc lo'
    | _ => false
  | .slT a hi, sc, e => match e with
    | .Subscript a' (.Slice none (some hi') none _) _ => chkE F N a sc a' && chkE F N hi sc hi'
    | _ => false
  | .slFT a lo hi, sc, e => match e with
    | .Subscript a' (.Slice (some lo') (some hi') none _) _ => chkE F N a sc a' && (chkE F N lo sc lo' && chkE F N hi sc hi')
    | _ => false
  | .rev a, sc, e => match e with
    | .Subscript a' (.Slice none none (some (.UnaryOp .USub (.Constant c _ _) _)) _) _ => decide (c = .int 1) && chkE F N a sc a'
    | _ => false
  | .bm m o es, sc, e => match e with
    | .Call (.Attribute o' x p1) (e1 :: es') [] p2 => decide (m.nm = x) && (!isCall0 o' && ((p1.endLine == p2.line) && (decide (es'.length < 20) && (chkE F N o sc o' && chkA F N es sc (e1 :: es')))))
    | _ => false
  | .lc elt tg it own, sc, e => match e with
    | .ListComp elt' [⟨tg', it', [], as⟩] scope _ => decide (as = 0) && (!isSet it' && (blkC N sc scope own && (chkT N (fbOf scope) (relab scope sc) tg tg' && (chkI F N it sc tg' it' && chkE F N elt (relab scope sc) elt'))))
    | _ => false
  | .lcIf elt tg it c own, sc, e => match e with
    | .ListComp elt' [⟨tg', it', [c'], as⟩] scope _ => decide (as = 0) && (!isSet it' && (blkC N sc scope own && (chkT N (fbOf scope) (relab scope sc) tg tg' && (chkI F N it sc tg' it' && (chkB F N c (relab scope sc) c' && chkE F N elt (relab scope sc) elt')))))
    | _ => false
def chkA (F : Nat → Option Str) (N : List Str) : List CE → Scope → List Expr → Bool
  | [], sc, es => match es with
    | [] => true
    | _ => false
  | c :: cs, sc, es => match es with
    | [] => false
    | e :: es => !isStar e && (chkE F N c sc e && chkA F N cs sc es)
def chkB (F : Nat → Option Str) (N : List Str) : CB → Scope → Expr → Bool
  | .not a, sc, e => match e with
    | .UnaryOp .Not a' _ => chkB F N a sc a'
    | _ => false
  | .and a b, sc, e => match e with
    | .BoolOp .And [a', b'] _ => chkB F N a sc a' && chkB F N b sc b'
    | .BoolOp .And (a' :: b' :: c' :: rest) p => chkB F N a sc a' && chkB F N b sc (.BoolOp .And (b' :: c' :: rest) p)
    | _ => false
  | .or a b, sc, e => match e with
    | .BoolOp .Or [a', b'] _ => chkB F N a sc a' && chkB F N b sc b'
    | .BoolOp .Or (a' :: b' :: c' :: rest) p => chkB F N a sc a' && chkB F N b sc (.BoolOp .Or (b' :: c' :: rest) p)
    | _ => false
  | .cmp op a b, sc, e => match e with
    | .Compare a' [op'] [b'] _ => beqCmp op op' && (!isSet b' && (chkE F N a sc a' && chkE F N b sc b'))
    | _ => false
  | .chain o1 o2 a b c, sc, e => match e with
    | .Compare a' [p1, p2] [b', c'] _ => beqCmp o1 p1 && (beqCmp o2 p2 && (!isSet c' && (chkE F N a sc a' && (chkE F N b sc b' && chkE F N c sc c'))))
    | _ => false
  | .tru a, sc, e => plainTest e && chkE F N a sc e
def chkI (F : Nat → Option Str) (N : List Str) : CI → Scope → Expr → Expr → Bool
  | .seq a, sc, tg, e => chkE F N a sc e
  | .rng1 a, sc, tg, e => match e with
    | .Call (.Name x _) [a'] [] _ => decide (x = "range") && (glB sc x && (!isStar a' && chkE F N a sc a'))
    | _ => false
  | .rng2 a b, sc, tg, e => match e with
    | .Call (.Name x _) [a', b'] [] _ => decide (x = "range") && (glB sc x && (!isStar a' && (!isStar b' && (chkE F N a sc a' && chkE F N b sc b'))))
    | _ => false
  | .enum a, sc, tg, e => match tg, e with
    | .Tuple _ _ _, .Call (.Name x _) [a'] [] _ => decide (x = "enumerate") && (glB sc x && (!isStar a' && chkE F N a sc a'))
    | _, _ => false
  | .zip a b, sc, tg, e => match tg, e with
    | .Tuple _ _ _, .Call (.Name x _) [a', b'] [] _ => decide (x = "zip") && (glB sc x && (!isStar a' && (!isStar b' && (chkE F N a sc a' && chkE F N b sc b'))))
    | _, _ => false
end

structure Cok (X : Cx) (Γ : Nat → Sp) (F : Nat → Option Str) (N : List Str) (k : Nat) (sc : Scope) : Prop where
  scope : X.env.scope = sc
  hN : X.N = N
  nd : N.Nodup
  calm : X.calm = true
  room : Room k X.A
  blt : ∀ b : Bt, X.mg b.nm = none
  rng : X.mg "range" = none
  enu : X.mg "enumerate" = none
  zip : X.mg "zip" = none
  fns : ∀ i x, F i = some x → ∃ (f : Addr) (fd : FuncData) (ps : List Str), FnOk X.prog X.w X.K X.mg X.base (L2.CX X.prog X.w) k f fd ps (Γ i) ∧ X.mg x = some (.ref f) ∧ PySem.W.keepIn X.K (.ref f) = true ∧ Binds X.K fd ps []

theorem and2 {a b : Bool} (h : (a && b) = true) : a = true ∧ b = true := Bool.and_eq_true_iff.mp h
theorem okName_ok {x : Str} (h : okName x = true) : (x == ("__debug__" : Str)) = false ∧ (x == ("__classdict__" : Str)) = false := by
  unfold okName at h
  obtain ⟨h1, h2⟩ := and2 h
  exact ⟨by simpa using h1, by simpa using h2⟩
theorem star_of {e : Expr} {es : List Expr} {env : Env} (h : isStar e = false) : starEach (e :: es) env = (false, eval e env) :: starEach es env := by
  cases e <;> first | rfl | cases h
def noStar : List Expr → Bool
  | [] => true
  | e :: es => !isStar e && noStar es
theorem plain_of {pos : Pos} {env : Env} : ∀ {es : List Expr}, noStar es = true → (backTo pos (starEach es env)).any (·.1) = false
  | [], _ => rfl
  | e :: es, h => by
    obtain ⟨h1, h2⟩ := and2 (show (!isStar e && noStar es) = true from h)
    rw [star_of (by simpa using h1)]
    show (false || (backTo pos (starEach es env)).any (·.1)) = false
    rw [plain_of h2]
    rfl
theorem all_of {pos : Pos} {env : Env} : ∀ {es : List Expr}, noStar es = true → (backTo pos (starEach es env)).all (fun x => !x.1) = true
  | [], _ => rfl
  | e :: es, h => by
    obtain ⟨h1, h2⟩ := and2 (show (!isStar e && noStar es) = true from h)
    rw [star_of (by simpa using h1)]
    show ((!false) && (backTo pos (starEach es env)).all (fun x => !x.1)) = true
    rw [all_of h2]
    rfl
theorem base_of {o : Expr} {f : Str} {env : Env} (h : isCall0 o = false) : attributeBase o f env (eval o env) = eval o env := by
  unfold attributeBase
  cases o with
  | Call fe as ks p =>
    cases fe with
    | Name x q =>
      cases as with
      | nil =>
        cases ks with
        | nil => cases h
        | cons _ _ => rfl
      | cons _ _ => rfl
    | _ => rfl
  | _ => rfl
theorem plainIx_of {b : Expr} (h : isSlice b = false) : PlainIx b := by
  intro o i
  cases b <;> first | rfl | cases h
theorem noset_of {b : Expr} {op : CmpOp} (h : isSet b = false) : behindInMarks op b = false := by
  cases b <;> first | rfl | cases h
theorem noset2_of {b c : Expr} {o1 o2 : CmpOp} (h : isSet c = false) : lastMarks [o1, o2] [b, c] = false := by
  cases c <;> first | rfl | cases h
theorem fold_of {it : Expr} {env : Env} (h : isSet it = false) (x : Value) : foldedSetIterable it env x = pure x := by
  cases it <;> first | rfl | cases h
theorem test_of {e : Expr} {env : Env} (h : plainTest e = true) (whole : Sem Value) : isTrue e env whole = (do let v ← whole; standAt e.pos; holding [v] (truthy v)) := by
  cases e with
  | UnaryOp op a p => cases op <;> first | rfl | cases h
  | _ => first | rfl | cases h

theorem PE.imp {X : Cx} {e : Expr} {t t' : TE} (h : PE X e t) (i : ∀ σ H Q, t' σ H Q → t σ H Q) : PE X e t' := ⟨fun pins s σ H Q I q => h.run pins s σ H Q I (i σ H Q q)⟩
theorem PI.or {X : Cx} {tg it : Expr} {w w' : TI} (h : PI X tg it w) (h' : PI X tg it w') : PI X tg it (fun σ H R => w σ H R ∨ w' σ H R) := ⟨fun pins s σ H R I q => by
  rcases q with q | q
  · exact h.run pins s σ H R I q
  · exact h'.run pins s σ H R I q⟩
theorem PG.or {X : Cx} {tg : Expr} {g g' : TG} (h : PG X tg g) (h' : PG X tg g') : PG X tg (fun v σ H Q => g v σ H Q ∨ g' v σ H Q) := ⟨fun pins s σ H v u Q I r q => by
  rcases q with q | q
  · exact h.run pins s σ H v u Q I r q
  · exact h'.run pins s σ H v u Q I r q⟩
theorem vals3 {x y z : V} {us : List Value} (r : Vals [x, y, z] us) : ∃ u v w, us = [u, v, w] ∧ RelV x u ∧ RelV y v ∧ RelV z w := by
  cases r with
  | cons r1 r2 =>
    obtain ⟨v, w, rfl, r3, r4⟩ := vals2 r2
    exact ⟨_, _, _, rfl, r1, r3, r4⟩
theorem call_max3 {X : Cx} (hc : X.calm = true) : CallR X (.builtin "max") (fun xs H Q => ∃ i j k, xs = [.int i, .int j, .int k] ∧ Q (.int (max3 i j k)) H) := by
  intro pins s σ H xs us Q I r h
  obtain ⟨i, j, k, rfl, q⟩ := h
  obtain ⟨u, v, w, rfl, ⟨t, rfl⟩, ⟨t', rfl⟩, ⟨t2, rfl⟩⟩ := vals3 r
  refine max_three_ints (I.ok.hd hc) fun h' tk kk => ⟨_, H, I.kept kk, ?_, q⟩
  unfold max3
  split <;> split <;> exact ⟨_, rfl⟩
theorem call_min3 {X : Cx} (hc : X.calm = true) : CallR X (.builtin "min") (fun xs H Q => ∃ i j k, xs = [.int i, .int j, .int k] ∧ Q (.int (min3 i j k)) H) := by
  intro pins s σ H xs us Q I r h
  obtain ⟨i, j, k, rfl, q⟩ := h
  obtain ⟨u, v, w, rfl, ⟨t, rfl⟩, ⟨t', rfl⟩, ⟨t2, rfl⟩⟩ := vals3 r
  refine min_three_ints (I.ok.hd hc) fun h' tk kk => ⟨_, H, I.kept kk, ?_, q⟩
  unfold min3
  split <;> split <;> exact ⟨_, rfl⟩
theorem bltR {X : Cx} (hc : X.calm = true) (b : Bt) : ∃ u, bootBuiltins b.nm = some u ∧ (u = .type "int" ∨ u = .type "list" ∨ u = .type "tuple" ∨ ∃ id, u = .builtin id) ∧ CallR X u (rBlt X.K b) := by
  cases b with
  | len => exact ⟨_, boot_len, .inr (.inr (.inr ⟨_, rfl⟩)), call_len_seq.or call_len_str⟩
  | abs => exact ⟨.builtin "abs", by decide +kernel, .inr (.inr (.inr ⟨_, rfl⟩)), call_abs⟩
  | max => exact ⟨.builtin "max", by decide +kernel, .inr (.inr (.inr ⟨_, rfl⟩)), (call_max2 hc).or ((cr_max hc).or (call_max3 hc))⟩
  | min => exact ⟨.builtin "min", by decide +kernel, .inr (.inr (.inr ⟨_, rfl⟩)), (call_min2 hc).or ((cr_min hc).or (call_min3 hc))⟩
  | int => exact ⟨.type "int", by decide +kernel, .inl rfl, call_int1⟩
  | list => exact ⟨.type "list", by decide +kernel, .inr (.inl rfl), call_list_of⟩
  | tuple => exact ⟨.type "tuple", by decide +kernel, .inr (.inr (.inl rfl)), call_tuple_of⟩
  | sum => exact ⟨.builtin "sum", by decide +kernel, .inr (.inr (.inr ⟨_, rfl⟩)), cr_sum hc⟩
  | all => exact ⟨.builtin "all", by decide +kernel, .inr (.inr (.inr ⟨_, rfl⟩)), cr_all hc⟩
  | any => exact ⟨.builtin "any", by decide +kernel, .inr (.inr (.inr ⟨_, rfl⟩)), cr_any hc⟩
  | sorted => exact ⟨.builtin "sorted", by decide +kernel, .inr (.inr (.inr ⟨_, rfl⟩)), cr_sortedI⟩
theorem binR {X : Cx} (op : Operator) : OpR X (binaryOp op) (rBin X.K op) := by
  cases op with
  | Add => exact op_add.or (op_cat.or (op_catA.or op_add_str))
  | Sub => exact op_sub
  | Mult => exact op_mulW.or (op_mul.or op_rep)
  | FloorDiv => exact op_fdivW
  | Mod => exact op_mod
  | Pow => exact op_pow
  | _ => exact fun _ _ _ _ _ _ _ _ _ _ _ _ h => h.elim
theorem cmpR {X : Cx} {k : Nat} (hr : Room k X.A) (op : CmpOp) : OpR X (compareOp op) (rCmp X.K op) := by
  have h1 := hr.units0
  have h2 : X.A.units + 65 < cLine := by have := hr.un; omega
  cases op with
  | Eq => exact op_eq.or (op_eqD hr.units)
  | NotEq => exact op_ne.or (op_neD hr.units)
  | Lt => exact op_lt.or (op_ltT h1)
  | LtE => exact op_le
  | Gt => exact op_gt
  | GtE => exact op_ge
  | Is => exact op_isN
  | IsNot => exact op_notN
  | In => exact op_in_seq.or (op_inD h2)
  | NotIn => exact op_notIn_seq.or (op_notInD h2)
theorem Cok.blk {X : Cx} {Γ : Nat → Sp} {F : Nat → Option Str} {N : List Str} {k : Nat} {sc : Scope} (c : Cok X Γ F N k sc) (s : Shared) (H : Hp) (scope : Scope) (C : Addr) (cl : List (Str × Addr)) (fp : List Addr) :
    Cok (X.blk s H scope (compEnvC scope cl C X.env) fp) Γ F N k (relab scope sc) where
  scope := by
    show relabel scope X.env = relab scope sc
    unfold relabel relab Env.kindOf
    rw [c.scope]
  hN := c.hN
  nd := c.nd
  calm := c.calm
  room := c.room
  blt := c.blt
  rng := c.rng
  enu := c.enu
  zip := c.zip
  fns := c.fns

section
variable {Γ : Nat → Sp} {F : Nat → Option Str} {N : List Str} {k : Nat}
theorem Cok.gl {X : Cx} {sc : Scope} (c : Cok X Γ F N k sc) {x : Str} (h : glB sc x = true) : Gl X x := by
  unfold Gl Env.kindOf
  rw [c.scope]
  exact glB_ok h
theorem blt_ok {X : Cx} {sc : Scope} (c : Cok X Γ F N k sc) (b : Bt) {e : Expr} {es : List Expr} {t : TA} {p pos : Pos} (hg : Gl X b.nm) (hs : isStar e = false) (hn : noStar es = true) (ha : PA X (e :: es) t) :
    PE X (.Call (.Name b.nm p) (e :: es) [] pos) (tCB (rBlt X.K b) t) := by
  obtain ⟨u, h1, h2, h3⟩ := bltR c.calm b
  have n1 : b.nm ≠ "__name__" := by cases b <;> decide +kernel
  have n2 : (b.nm == ("__debug__" : Str)) = false := by cases b <;> decide +kernel
  rcases h2 with rfl | rfl | rfl | ⟨id, rfl⟩
  · exact pe_callTy h3 hg (c.blt b) h1 ha n1 n2 (star_of hs) (plain_of hn)
  · exact pe_callTy h3 hg (c.blt b) h1 ha n1 n2 (star_of hs) (plain_of hn)
  · exact pe_callTy h3 hg (c.blt b) h1 ha n1 n2 (star_of hs) (plain_of hn)
  · exact pe_callB h3 hg (c.blt b) h1 ha n1 n2 (star_of hs) (plain_of hn)
theorem chkA_noStar {sc : Scope} : ∀ {cs : List CE} {es : List Expr}, chkA F N cs sc es = true → noStar es = true
  | [], [], _ => rfl
  | [], _ :: _, h => by cases h
  | _ :: _, [], h => by cases h
  | c :: cs, e :: es, h => by
    obtain ⟨h1, h2⟩ := and2 (show (!isStar e && (chkE F N c sc e && chkA F N cs sc es)) = true from h)
    obtain ⟨h3, h4⟩ := and2 h2
    show (!isStar e && noStar es) = true
    rw [h1, chkA_noStar h4]
    rfl
theorem bnot {b : Bool} (h : (!b) = true) : b = false := by cases b <;> first | rfl | cases h
mutual
theorem okT {X : Cx} {sc : Scope} {fb : Str → Bool} (c : Cok X Γ F N k sc) (hfb : ∀ x, fb x = true → X.fn x = true) : ∀ (t : CT) (e : Expr), chkT N fb sc t e = true → PG X e (semG X.K t)
  | .name i, e, h => by
    cases e with
    | Name x p =>
      obtain ⟨h1, h2⟩ := and2 (show (decide (N[i]? = some x) && (locB sc x && (fb x || lclB sc x))) = true from h)
      obtain ⟨h2, h4⟩ := and2 h2
      have h3 := locB_ok h2
      refine pg_name (by rw [c.hN]; exact c.nd) (by rw [c.hN]; exact of_decide_eq_true h1) (by rw [c.scope]; exact h3) ?_
      rw [c.scope]
      rcases Bool.or_eq_true_iff.mp h4 with h5 | h5
      · exact .inl (hfb x h5)
      · exact .inr (lclB_ok h5)
    | _ => cases h
  | .tup ts, e, h => by
    cases e with
    | Tuple es k2 p =>
      have h1 : chkTs N fb sc ts es = true := h
      have hl := chkTs_len c ts es h1
      exact PG.or (pg_tup c.calm (okTs c hfb ts es h1) hl.1 hl.2) (pg_lst c.calm (okTs c hfb ts es h1) hl.1 hl.2)
    | _ => cases h
theorem okTs {X : Cx} {sc : Scope} {fb : Str → Bool} (c : Cok X Γ F N k sc) (hfb : ∀ x, fb x = true → X.fn x = true) : ∀ (ts : List CT) (es : List Expr), chkTs N fb sc ts es = true → PGs X es (semGs X.K ts)
  | [], es, h => by
    cases es with
    | nil => exact pgs_nil
    | cons _ _ => cases h
  | t :: ts, es, h => by
    cases es with
    | nil => cases h
    | cons e es =>
      obtain ⟨h1, h2⟩ := and2 (show (chkT N fb sc t e && chkTs N fb sc ts es) = true from h)
      have hg := okT c hfb t e h1
      refine pgs_cons hg (okTs c hfb ts es h2) ?_
      cases t with
      | name i => cases e <;> first | rfl | cases h1
      | tup _ => cases e <;> first | rfl | cases h1
theorem chkTs_len {X : Cx} {sc : Scope} {fb : Str → Bool} (c : Cok X Γ F N k sc) : ∀ (ts : List CT) (es : List Expr), chkTs N fb sc ts es = true → (assignEach es X.env).length = CT.lens ts ∧ (assignEach es X.env).findIdx? (·.1) = none
  | [], es, h => by
    cases es with
    | nil => exact ⟨rfl, rfl⟩
    | cons _ _ => cases h
  | t :: ts, es, h => by
    cases es with
    | nil => cases h
    | cons e es =>
      obtain ⟨h1, h2⟩ := and2 (show (chkT N fb sc t e && chkTs N fb sc ts es) = true from h)
      obtain ⟨i1, i2⟩ := chkTs_len c ts es h2
      have e1 : assignEach (e :: es) X.env = (false, assign e X.env) :: assignEach es X.env := by
        cases t with
        | name i => cases e <;> first | rfl | cases h1
        | tup _ => cases e <;> first | rfl | cases h1
      rw [e1]
      refine ⟨?_, ?_⟩
      · show (assignEach es X.env).length + 1 = CT.lens ts + 1
        rw [i1]
      · rw [List.findIdx?_cons]
        simp [i2]
end
end
end LT

namespace LT
open PySem PySem.Spec PyProof.Rows L2
section
variable {Γ : Nat → Sp} {F : Nat → Option Str} {N : List Str} {k : Nat}
theorem mt_ok {X : Cx} (m : Mt) {o e : Expr} {es : List Expr} {to : TE} {t : TA} {apos cpos : Pos} (ho : PE X o to) (ha : PA X (e :: es) t) (hb : isCall0 o = false) (hl : (apos.endLine == cpos.line) = true) (hs : isStar e = false) (hn : noStar es = true) (hz : es.length < 20) :
    PE X (.Call (.Attribute o m.nm apos) (e :: es) [] cpos) (tBM X.K "list" (rMt m) to t) := by
  have hfew : ((backTo cpos (starEach (e :: es) X.env)).all (fun x => !x.1) && (backToKw cpos (keywordEach [] X.env)).all (fun x => x.1.isSome)
      && decide ((e :: es).length + ([] : List Keyword).length + (if ([] : List Keyword).isEmpty then 0 else 1) < 30)) = true := by
    have h1 : (backTo cpos (starEach (e :: es) X.env)).all (fun x => !x.1) = true := all_of (by show (!isStar e && noStar es) = true; rw [hs, hn]; rfl)
    rw [h1]
    show (true && true && decide ((e :: es).length + 0 + 0 < 30)) = true
    rw [decide_eq_true (by show es.length + 1 + 0 + 0 < 30; omega)]
    rfl
  cases m with
  | append => exact pe_bm PySem.F.plainAttrs_list PySem.F.slot_list_append PySem.F.type_list_append mt_append ho ha (base_of hb) hfew hl (star_of hs) (plain_of hn)
  | extend => exact pe_bm PySem.F.plainAttrs_list PySem.F.slot_list_extend PySem.F.type_list_extend mt_extend ho ha (base_of hb) hfew hl (star_of hs) (plain_of hn)
def isBO : Expr → Bool
  | .BoolOp _ _ _ => true
  | _ => false
mutual
theorem okE {X : Cx} {sc : Scope} {W : WX} (c : Cok X Γ F N k sc) (tk : Takes X W) : ∀ (ce : CE) (e : Expr), chkE F N ce sc e = true → PE X e (semE Γ X.K ce W)
  | .var i, e, h => by
    cases e with
    | Name x p =>
      obtain ⟨h1, h2⟩ := and2 (show (decide (N[i]? = some x) && (visB sc x && okName x)) = true from h)
      obtain ⟨h2, h3⟩ := and2 h2
      obtain ⟨h4, h5⟩ := okName_ok h3
      exact pe_var (by rw [c.hN]; exact of_decide_eq_true h1) (by rw [c.scope]; exact visB_ok h2) h4 h5
    | _ => cases h
  | .cst cc, e, h => by
    cases e with
    | Constant c2 i p =>
      have e1 : cc = c2 := of_decide_eq_true h
      subst e1
      cases cc with
      | int i => exact pe_int
      | bool b => exact pe_bl
      | none => exact pe_non
      | str s => exact pe_str
      | _ => exact ⟨fun _ _ _ _ _ _ z => z.elim⟩
    | _ => cases h
  | .tup es, e, h => by
    cases e with
    | Tuple es' i p => exact pe_tup (okA c tk es es' h)
    | _ => cases h
  | .lst es, e, h => by
    cases e with
    | List es' p => exact pe_lst (okA c tk es es' h)
    | _ => cases h
  | .bin op a b, e, h => by
    cases e with
    | BinOp a' op' b' p =>
      obtain ⟨h1, h2⟩ := and2 (show (beqOp op op' && (chkE F N a sc a' && chkE F N b sc b')) = true from h)
      obtain ⟨h2, h3⟩ := and2 h2
      have e1 : op = op' := of_decide_eq_true h1
      subst e1
      exact pe_op (binR op) (okE c tk a a' h2) (okE c tk b b' h3)
    | _ => cases h
  | .neg a, e, h => by
    cases e with
    | UnaryOp op a' p =>
      cases op with
      | USub => exact pe_un un_neg (okE c tk a a' h)
      | _ => cases h
    | _ => cases h
  | .notV a, e, h => by
    cases e with
    | UnaryOp op a' p =>
      cases op with
      | Not => exact pe_notT (okE c tk a a' h)
      | _ => cases h
    | _ => cases h
  | .andV a b, e, h => by
    cases e with
    | BoolOp op vs p =>
      cases op with
      | And =>
        match vs, h with
        | [a', b'], h =>
          obtain ⟨h1, h2⟩ := and2 (show (chkE F N a sc a' && chkE F N b sc b') = true from h)
          exact pe_andT (okE c tk a a' h1) (pe_one (okE c tk b b' h2))
        | a' :: b' :: c' :: rest, h =>
          obtain ⟨h1, h2⟩ := and2 (show (chkE F N a sc a' && chkE F N b sc (.BoolOp .And (b' :: c' :: rest) p)) = true from h)
          exact pe_andT (okE c tk a a' h1) (okE c tk b _ h2)
        | [], h => cases h
        | [_], h => cases h
      | Or => cases h
    | _ => cases h
  | .orV a b, e, h => by
    cases e with
    | BoolOp op vs p =>
      cases op with
      | Or =>
        match vs, h with
        | [a', b'], h =>
          obtain ⟨h1, h2⟩ := and2 (show (chkE F N a sc a' && chkE F N b sc b') = true from h)
          exact pe_orT (okE c tk a a' h1) (pe_one (okE c tk b b' h2))
        | a' :: b' :: c' :: rest, h =>
          obtain ⟨h1, h2⟩ := and2 (show (chkE F N a sc a' && chkE F N b sc (.BoolOp .Or (b' :: c' :: rest) p)) = true from h)
          exact pe_orT (okE c tk a a' h1) (okE c tk b _ h2)
        | [], h => cases h
        | [_], h => cases h
      | And => cases h
    | _ => cases h
  | .ite t a b, e, h => by
    cases e with
    | IfExp t' a' b' p =>
      obtain ⟨h1, h2⟩ := and2 (show (chkB F N t sc t' && (chkE F N a sc a' && chkE F N b sc b')) = true from h)
      obtain ⟨h2, h3⟩ := and2 h2
      exact pe_ifExp (okB c tk t t' h1).1 (okE c tk a a' h2) (okE c tk b b' h3)
    | _ => cases h
  | .cmp op a b, e, h => by
    cases e with
    | Compare a' ops bs p =>
      match ops, bs, h with
      | [op'], [b'], h =>
        obtain ⟨h1, h2⟩ := and2 (show (beqCmp op op' && (!isSet b' && (chkE F N a sc a' && chkE F N b sc b'))) = true from h)
        obtain ⟨h2, h3⟩ := and2 h2
        obtain ⟨h3, h4⟩ := and2 h3
        have e1 : op = op' := of_decide_eq_true h1
        subst e1
        exact pe_cmpR (cmpR c.room op) (okE c tk a a' h3) (okE c tk b b' h4) (noset_of (bnot h2))
      | [], _, h => cases h
      | _ :: _ :: _, _, h => cases h
      | [_], [], h => cases h
      | [_], _ :: _ :: _, h => cases h
    | _ => cases h
  | .chain o1 o2 a b d, e, h => by
    cases e with
    | Compare a' ops bs p =>
      match ops, bs, h with
      | [p1, p2], [b', d'], h =>
        obtain ⟨h1, h2⟩ := and2 (show (beqCmp o1 p1 && (beqCmp o2 p2 && (!isSet d' && (chkE F N a sc a' && (chkE F N b sc b' && chkE F N d sc d'))))) = true from h)
        obtain ⟨h2, h3⟩ := and2 h2
        obtain ⟨h3, h4⟩ := and2 h3
        obtain ⟨h4, h5⟩ := and2 h4
        obtain ⟨h5, h6⟩ := and2 h5
        have e1 : o1 = p1 := of_decide_eq_true h1
        have e2 : o2 = p2 := of_decide_eq_true h2
        subst e1 e2
        exact pe_chain (cmpR c.room o1) (cmpR c.room o2) (okE c tk a a' h4) (okE c tk b b' h5) (okE c tk d d' h6) (noset2_of (bnot h3))
      | [], _, h => cases h
      | [_], _, h => cases h
      | _ :: _ :: _ :: _, _, h => cases h
      | [_, _], [], h => cases h
      | [_, _], [_], h => cases h
      | [_, _], _ :: _ :: _ :: _, h => cases h
    | _ => cases h
  | .call f es, e, h => by
    cases e with
    | Call fe as ks p =>
      match fe, as, ks, h with
      | .Name x q, e1 :: es', [], h =>
        obtain ⟨h1, h2⟩ := and2 (show (decide (F f = some x) && (glB sc x && (okName x && chkA F N es sc (e1 :: es')))) = true from h)
        obtain ⟨h2, h3⟩ := and2 h2
        obtain ⟨h3, h4⟩ := and2 h3
        obtain ⟨fa, fd, ps, g1, g2, g3, g4⟩ := c.fns f x (of_decide_eq_true h1)
        have hs := chkA_noStar h4
        obtain ⟨s1, s2⟩ := and2 (show (!isStar e1 && noStar es') = true from hs)
        exact pe_callSD g1 c.room (c.gl h2) g2 g3 g4 .nil (fun σ => passAt tk σ) (okA c tk es (e1 :: es') h4) (okName_ok h3).1 (star_of (bnot s1)) (plain_of s2)
    | _ => cases h
  | .blt b es, e, h => by
    cases e with
    | Call fe as ks p =>
      match fe, as, ks, h with
      | .Name x q, e1 :: es', [], h =>
        obtain ⟨h1, h2⟩ := and2 (show (decide (b.nm = x) && (glB sc x && chkA F N es sc (e1 :: es'))) = true from h)
        obtain ⟨h2, h4⟩ := and2 h2
        have e2 : b.nm = x := of_decide_eq_true h1
        subst e2
        have hs := chkA_noStar h4
        obtain ⟨s1, s2⟩ := and2 (show (!isStar e1 && noStar es') = true from hs)
        exact blt_ok c b (c.gl h2) (bnot s1) s2 (okA c tk es (e1 :: es') h4)
    | _ => cases h
  | .ix a b, e, h => by
    cases e with
    | Subscript a' b' p =>
      obtain ⟨h1, h2⟩ := and2 (show (!isSlice b' && (chkE F N a sc a' && chkE F N b sc b')) = true from h)
      obtain ⟨h2, h3⟩ := and2 h2
      exact pe_ix ix_seq (okE c tk a a' h2) (okE c tk b b' h3) (plainIx_of (bnot h1))
    | _ => cases h
  | .slA a, e, h => by
    cases e with
    | Subscript a' s p =>
      match s, h with
      | .Slice none none none q, h => exact pe_slice (sl_list.or (sl_tupA.or sl_str)) (okE c tk a a' h) po_none po_none
    | _ => cases h
  | .slF a lo, e, h => by
    cases e with
    | Subscript a' s p =>
      match s, h with
      | .Slice (some lo') none none q, h =>
        obtain ⟨h1, h2⟩ := and2 (show (chkE F N a sc a' && chkE F N lo sc lo') = true from h)
        exact pe_slice (sl_list.or (sl_tupA.or sl_str)) (okE c tk a a' h1) (po_some (okE c tk lo lo' h2)) po_none
    | _ => cases h
  | .slT a hi, e, h => by
    cases e with
    | Subscript a' s p =>
      match s, h with
      | .Slice none (some hi') none q, h =>
        obtain ⟨h1, h2⟩ := and2 (show (chkE F N a sc a' && chkE F N hi sc hi') = true from h)
        exact pe_slice (sl_list.or (sl_tupA.or sl_str)) (okE c tk a a' h1) po_none (po_some (okE c tk hi hi' h2))
    | _ => cases h
  | .slFT a lo hi, e, h => by
    cases e with
    | Subscript a' s p =>
      match s, h with
      | .Slice (some lo') (some hi') none q, h =>
        obtain ⟨h1, h2⟩ := and2 (show (chkE F N a sc a' && (chkE F N lo sc lo' && chkE F N hi sc hi')) = true from h)
        obtain ⟨h2, h3⟩ := and2 h2
        exact pe_slice (sl_list.or (sl_tupA.or sl_str)) (okE c tk a a' h1) (po_some (okE c tk lo lo' h2)) (po_some (okE c tk hi hi' h3))
    | _ => cases h
  | .rev a, e, h => by
    cases e with
    | Subscript a' s p =>
      match s, h with
      | .Slice none none (some (.UnaryOp .USub (.Constant cc i p1) p2)) q, h =>
        obtain ⟨h1, h2⟩ := and2 (show (decide (cc = .int 1) && chkE F N a sc a') = true from h)
        have e1 : cc = .int 1 := of_decide_eq_true h1
        subst e1
        exact pe_revL (okE c tk a a' h2)
    | _ => cases h
  | .bm m o es, e, h => by
    cases e with
    | Call fe as ks p =>
      match fe, as, ks, h with
      | .Attribute o' x p1, e1 :: es', [], h =>
        obtain ⟨h1, h2⟩ := and2 (show (decide (m.nm = x) && (!isCall0 o' && ((p1.endLine == p.line) && (decide (es'.length < 20) && (chkE F N o sc o' && chkA F N es sc (e1 :: es')))))) = true from h)
        obtain ⟨h2, h3⟩ := and2 h2
        obtain ⟨h3, h4⟩ := and2 h3
        obtain ⟨h4, h5⟩ := and2 h4
        obtain ⟨h5, h6⟩ := and2 h5
        have e2 : m.nm = x := of_decide_eq_true h1
        subst e2
        obtain ⟨s1, s2⟩ := and2 (show (!isStar e1 && noStar es') = true from chkA_noStar h6)
        exact mt_ok m (okE c tk o o' h5) (okA c tk es (e1 :: es') h6) (bnot h2) h3 (bnot s1) s2 (of_decide_eq_true h4)
    | _ => cases h
  | .lc elt tg it own, e, h => by
    cases e with
    | ListComp elt' gs scope p =>
      match gs, h with
      | [⟨tg', it', [], as⟩], h =>
        obtain ⟨h2, h3⟩ := and2 (show (decide (as = 0) && (!isSet it' && (blkC N sc scope own && (chkT N (fbOf scope) (relab scope sc) tg tg' && (chkI F N it sc tg' it' && chkE F N elt (relab scope sc) elt'))))) = true from h)
        obtain ⟨h3, h4⟩ := and2 h3
        obtain ⟨h4, h5⟩ := and2 h4
        obtain ⟨h5, h6⟩ := and2 h5
        obtain ⟨h6, h7⟩ := and2 h6
        have e2 : as = 0 := of_decide_eq_true h2
        subst e2
        exact pe_lc c.calm (by rw [c.hN]; exact c.nd) (okI c tk it tg' it' h6) (by rw [c.hN, c.scope]; exact blkOk_by h4) (fun s H C cl fp => okT (c.blk s H scope C cl fp) (fun _ z => z) tg tg' h5)
          (fun _ _ _ _ _ => pts_nil) (fun s H C cl fp => okE (W := W0) (c.blk s H scope C cl fp) takes0 elt elt' h7) (fun x => fold_of (bnot h3) x)
    | _ => cases h
  | .lcIf elt tg it t own, e, h => by
    cases e with
    | ListComp elt' gs scope p =>
      match gs, h with
      | [⟨tg', it', [t'], as⟩], h =>
        obtain ⟨h2, h3⟩ := and2 (show (decide (as = 0) && (!isSet it' && (blkC N sc scope own && (chkT N (fbOf scope) (relab scope sc) tg tg' && (chkI F N it sc tg' it' && (chkB F N t (relab scope sc) t' && chkE F N elt (relab scope sc) elt')))))) = true from h)
        obtain ⟨h3, h4⟩ := and2 h3
        obtain ⟨h4, h5⟩ := and2 h4
        obtain ⟨h5, h6⟩ := and2 h5
        obtain ⟨h6, h7⟩ := and2 h6
        obtain ⟨h7, h8⟩ := and2 h7
        have e2 : as = 0 := of_decide_eq_true h2
        subst e2
        exact pe_lc c.calm (by rw [c.hN]; exact c.nd) (okI c tk it tg' it' h6) (by rw [c.hN, c.scope]; exact blkOk_by h4) (fun s H C cl fp => okT (c.blk s H scope C cl fp) (fun _ z => z) tg tg' h5)
          (fun s H C cl fp => pts_one (okB (W := W0) (c.blk s H scope C cl fp) takes0 t t' h7).1) (fun s H C cl fp => okE (W := W0) (c.blk s H scope C cl fp) takes0 elt elt' h8) (fun x => fold_of (bnot h3) x)
    | _ => cases h
theorem okA {X : Cx} {sc : Scope} {W : WX} (c : Cok X Γ F N k sc) (tk : Takes X W) : ∀ (cs : List CE) (es : List Expr), chkA F N cs sc es = true → PA X es (semA Γ X.K cs W)
  | [], es, h => by
    cases es with
    | nil => exact pa_nil
    | cons _ _ => cases h
  | ce :: cs, es, h => by
    cases es with
    | nil => cases h
    | cons e es =>
      obtain ⟨h1, h2⟩ := and2 (show (!isStar e && (chkE F N ce sc e && chkA F N cs sc es)) = true from h)
      obtain ⟨h2, h3⟩ := and2 h2
      exact pa_cons (okE c tk ce e h2) (okA c tk cs es h3) (star_of (bnot h1))
theorem okB {X : Cx} {sc : Scope} {W : WX} (c : Cok X Γ F N k sc) (tk : Takes X W) : ∀ (ce : CB) (e : Expr), chkB F N ce sc e = true → PT X e (semB Γ X.K ce W) ∧ (isBO e = true → PW X e (semB Γ X.K ce W))
  | .not a, e, h => by
    cases e with
    | UnaryOp op a' p =>
      cases op with
      | Not => exact ⟨pt_not (okB c tk a a' h).1, fun z => nomatch z⟩
      | _ => cases h
    | _ => cases h
  | .and a b, e, h => by
    cases e with
    | BoolOp op vs p =>
      cases op with
      | And =>
        have key : PW X (.BoolOp .And vs p) (tAnd (semB Γ X.K a W) (semB Γ X.K b W)) := by
          match vs, h with
          | [a', b'], h =>
            obtain ⟨h1, h2⟩ := and2 (show (chkB F N a sc a' && chkB F N b sc b') = true from h)
            exact pw_and (okB c tk a a' h1).1 (pw_and1 (okB c tk b b' h2).1)
          | a' :: b' :: c' :: rest, h =>
            obtain ⟨h1, h2⟩ := and2 (show (chkB F N a sc a' && chkB F N b sc (.BoolOp .And (b' :: c' :: rest) p)) = true from h)
            exact pw_and (okB c tk a a' h1).1 ((okB c tk b _ h2).2 rfl)
          | [], h => cases h
          | [_], h => cases h
        exact ⟨key.pt, fun _ => key⟩
      | Or => cases h
    | _ => cases h
  | .or a b, e, h => by
    cases e with
    | BoolOp op vs p =>
      cases op with
      | Or =>
        have key : PW X (.BoolOp .Or vs p) (tOr (semB Γ X.K a W) (semB Γ X.K b W)) := by
          match vs, h with
          | [a', b'], h =>
            obtain ⟨h1, h2⟩ := and2 (show (chkB F N a sc a' && chkB F N b sc b') = true from h)
            exact pw_or (okB c tk a a' h1).1 (pw_or1 (okB c tk b b' h2).1)
          | a' :: b' :: c' :: rest, h =>
            obtain ⟨h1, h2⟩ := and2 (show (chkB F N a sc a' && chkB F N b sc (.BoolOp .Or (b' :: c' :: rest) p)) = true from h)
            exact pw_or (okB c tk a a' h1).1 ((okB c tk b _ h2).2 rfl)
          | [], h => cases h
          | [_], h => cases h
        exact ⟨key.pt, fun _ => key⟩
      | And => cases h
    | _ => cases h
  | .cmp op a b, e, h => by
    cases e with
    | Compare a' ops bs p =>
      match ops, bs, h with
      | [op'], [b'], h =>
        obtain ⟨h1, h2⟩ := and2 (show (beqCmp op op' && (!isSet b' && (chkE F N a sc a' && chkE F N b sc b'))) = true from h)
        obtain ⟨h2, h3⟩ := and2 h2
        obtain ⟨h3, h4⟩ := and2 h3
        have e1 : op = op' := of_decide_eq_true h1
        subst e1
        exact ⟨pt_cmpR (cmpR c.room op) (okE c tk a a' h3) (okE c tk b b' h4) (noset_of (bnot h2)), fun z => nomatch z⟩
      | [], _, h => cases h
      | _ :: _ :: _, _, h => cases h
      | [_], [], h => cases h
      | [_], _ :: _ :: _, h => cases h
    | _ => cases h
  | .chain o1 o2 a b d, e, h => by
    cases e with
    | Compare a' ops bs p =>
      match ops, bs, h with
      | [p1, p2], [b', d'], h =>
        obtain ⟨h1, h2⟩ := and2 (show (beqCmp o1 p1 && (beqCmp o2 p2 && (!isSet d' && (chkE F N a sc a' && (chkE F N b sc b' && chkE F N d sc d'))))) = true from h)
        obtain ⟨h2, h3⟩ := and2 h2
        obtain ⟨h3, h4⟩ := and2 h3
        obtain ⟨h4, h5⟩ := and2 h4
        obtain ⟨h5, h6⟩ := and2 h5
        have e1 : o1 = p1 := of_decide_eq_true h1
        have e2 : o2 = p2 := of_decide_eq_true h2
        subst e1 e2
        exact ⟨pt_chain (cmpR c.room o1) (cmpR c.room o2) (okE c tk a a' h4) (okE c tk b b' h5) (okE c tk d d' h6) (noset2_of (bnot h3)), fun z => nomatch z⟩
      | [], _, h => cases h
      | [_], _, h => cases h
      | _ :: _ :: _ :: _, _, h => cases h
      | [_, _], [], h => cases h
      | [_, _], [_], h => cases h
      | [_, _], _ :: _ :: _ :: _, h => cases h
    | _ => cases h
  | .tru a, e, h => by
    obtain ⟨h1, h2⟩ := and2 (show (plainTest e && chkE F N a sc e) = true from h)
    refine ⟨pt_truth (okE c tk a e h2) (test_of h1), fun z => ?_⟩
    cases e <;> first | (cases h1; done) | (cases z; done)
theorem okI {X : Cx} {sc : Scope} {W : WX} (c : Cok X Γ F N k sc) (tk : Takes X W) : ∀ (ci : CI) (tg e : Expr), chkI F N ci sc tg e = true → PI X tg e (semI Γ X.K ci W)
  | .seq a, tg, e, h => PI.or (pi_list (okE c tk a e h)) (PI.or (pi_tup (okE c tk a e h)) (pi_str (okE c tk a e h)))
  | .rng1 a, tg, e, h => by
    cases e with
    | Call fe as ks p =>
      match fe, as, ks, h with
      | .Name x q, [a'], [], h =>
        obtain ⟨h1, h2⟩ := and2 (show (decide (x = "range") && (glB sc x && (!isStar a' && chkE F N a sc a'))) = true from h)
        obtain ⟨h2, h3⟩ := and2 h2
        obtain ⟨h3, h4⟩ := and2 h3
        have e2 : x = "range" := of_decide_eq_true h1
        subst e2
        exact pi_range1 (c.gl h2) c.rng (pa_cons (okE c tk a a' h4) pa_nil (star_of (bnot h3))) (star_of (bnot h3))
    | _ => cases h
  | .rng2 a b, tg, e, h => by
    cases e with
    | Call fe as ks p =>
      match fe, as, ks, h with
      | .Name x q, [a', b'], [], h =>
        obtain ⟨h1, h2⟩ := and2 (show (decide (x = "range") && (glB sc x && (!isStar a' && (!isStar b' && (chkE F N a sc a' && chkE F N b sc b'))))) = true from h)
        obtain ⟨h2, h3⟩ := and2 h2
        obtain ⟨h3, h4⟩ := and2 h3
        obtain ⟨h4, h5⟩ := and2 h4
        obtain ⟨h5, h6⟩ := and2 h5
        have e2 : x = "range" := of_decide_eq_true h1
        subst e2
        exact pi_range2 (c.gl h2) c.rng (pa_cons (okE c tk a a' h5) (pa_cons (okE c tk b b' h6) pa_nil (star_of (bnot h4))) (star_of (bnot h3))) (by rw [star_of (bnot h3), star_of (bnot h4)] <;> rfl) (star_of (bnot h4))
    | _ => cases h
  | .enum a, tg, e, h => by
    cases tg with
    | Tuple elts kk tpos =>
      cases e with
      | Call fe as ks p =>
        match fe, as, ks, h with
        | .Name x q, [a'], [], h =>
          obtain ⟨h1, h2⟩ := and2 (show (decide (x = "enumerate") && (glB sc x && (!isStar a' && chkE F N a sc a'))) = true from h)
          obtain ⟨h2, h3⟩ := and2 h2
          obtain ⟨h3, h4⟩ := and2 h3
          have e2 : x = "enumerate" := of_decide_eq_true h1
          subst e2
          exact pi_enum (c.gl h2) c.enu (pa_cons (okE c tk a a' h4) pa_nil (star_of (bnot h3))) (star_of (bnot h3))
      | _ => cases h
    | _ => cases h
  | .zip a b, tg, e, h => by
    cases tg with
    | Tuple elts kk tpos =>
      cases e with
      | Call fe as ks p =>
        match fe, as, ks, h with
        | .Name x q, [a', b'], [], h =>
          obtain ⟨h1, h2⟩ := and2 (show (decide (x = "zip") && (glB sc x && (!isStar a' && (!isStar b' && (chkE F N a sc a' && chkE F N b sc b'))))) = true from h)
          obtain ⟨h2, h3⟩ := and2 h2
          obtain ⟨h3, h4⟩ := and2 h3
          obtain ⟨h4, h5⟩ := and2 h4
          obtain ⟨h5, h6⟩ := and2 h5
          have e2 : x = "zip" := of_decide_eq_true h1
          subst e2
          exact pi_zip (c.gl h2) c.zip (pa_cons (okE c tk a a' h5) (pa_cons (okE c tk b b' h6) pa_nil (star_of (bnot h4))) (star_of (bnot h3))) (star_of (bnot h3)) (plain_of (by show (!isStar b' && true) = true; rw [bnot h4]; rfl))
      | _ => cases h
    | _ => cases h
end
end
end LT

namespace LT
open PySem PySem.Spec PyProof.Rows L2

def swS (sc : Scope) (targets : List Expr) (value : Expr) : Sem (Option (List Str)) := do
  let some (ts, vs) := (match targets, value with
    | [.Tuple ts _ _], .Tuple vs _ _ | [.List ts _], .Tuple vs _ _ => some (ts, vs)
    | _, _ => none) | return none
  if !(ts.length == 2 || ts.length == 3) || vs.length != ts.length || (if sc.kind.isAnnotationScope then ScopeKind.function else sc.kind) != .function then return none
  if vs.any fun | .Starred .. => true | _ => false then return none
  let line := (ts.head?.map (·.pos.line)).getD 0
  let names := ts.filterMap fun
    | .Name id pos => if sc.names.lookup id == some .local && pos.line == line then some id else none
    | _ => none
  if names.length != ts.length || names.eraseDups.length != names.length then return none
  if vs.all (foldedForSure 8) then return none
  if vs.all (constantsAlone 8) then unsupported "assign.tuple-of-constant-expressions:order-of-the-stores"
  return some names
theorem swS_eq (env : Env) (ts : List Expr) (v : Expr) : swappedStores ts v env = swS env.scope ts v := rfl
def swNone (sc : Scope) (t v : Expr) : Bool := match t, v with
  | .Tuple ts _ _, .Tuple vs _ _ =>
    let names := ts.filterMap fun
      | .Name id pos => if sc.names.lookup id == some .local && pos.line == (ts.head?.map (·.pos.line)).getD 0 then some id else none
      | _ => none
    !(ts.length == 2 || ts.length == 3) || vs.length != ts.length || (names.length != ts.length || names.eraseDups.length != names.length) || vs.all (foldedForSure 8)
  | .List _ _, .Tuple _ _ _ => false
  | _, _ => true
theorem swNone_ok {env : Env} {t v : Expr} (h : swNone env.scope t v = true) : swappedStores [t] v env = pure none := by
  rw [swS_eq]
  unfold swS
  cases t with
  | Tuple ts k p =>
    cases v with
    | Tuple vs k2 p2 =>
      simp only [swNone] at h
      simp only []
      by_cases h1 : (!(ts.length == 2 || ts.length == 3) || vs.length != ts.length || (if env.scope.kind.isAnnotationScope then ScopeKind.function else env.scope.kind) != .function) = true
      · rw [if_pos h1]
      · rw [if_neg h1]
        by_cases h2 : (vs.any fun | .Starred .. => true | _ => false) = true
        · rw [if_pos h2]
        · rw [if_neg h2]
          simp only [Bool.or_eq_true, not_or] at h1
          simp only [Bool.or_eq_true] at h
          rcases h with ((h | h) | h) | h
          · exact absurd (by simpa using h) h1.1.1
          · exact absurd h h1.1.2
          · rw [if_pos (by simpa using h)]
          · by_cases h3 : ((ts.filterMap fun
              | .Name id pos => if env.scope.names.lookup id == some .local && pos.line == (ts.head?.map (·.pos.line)).getD 0 then some id else none
              | _ => none).length != ts.length || (ts.filterMap fun
              | .Name id pos => if env.scope.names.lookup id == some .local && pos.line == (ts.head?.map (·.pos.line)).getD 0 then some id else none
              | _ => none).eraseDups.length != (ts.filterMap fun
              | .Name id pos => if env.scope.names.lookup id == some .local && pos.line == (ts.head?.map (·.pos.line)).getD 0 then some id else none
              | _ => none).length) = true
            · rw [if_pos h3]
            · rw [if_neg h3, if_pos h]
    | _ => rfl
  | List ts p => cases v <;> first | rfl | cases h
  | _ => cases v <;> rfl
def swSome (sc : Scope) (xs : List (Str × Pos)) (vs : List Expr) : Bool :=
  (match sc.kind with | .function => true | _ => false) && (noStar vs && ((xs.all fun q => (sc.names.lookup q.1 == some .local) && q.2.line == (xs.head?.map (·.2.line)).getD 0) && (((xs.map (·.1)).eraseDups.length == xs.length) && (!vs.all (foldedForSure 8) && !vs.all (constantsAlone 8)))))
theorem anyStar {vs : List Expr} (h : noStar vs = true) : (vs.any fun | .Starred .. => true | _ => false) = false := by
  induction vs with
  | nil => rfl
  | cons v vs ih =>
    obtain ⟨h1, h2⟩ := and2 (show (!isStar v && noStar vs) = true from h)
    rw [List.any_cons, ih h2]
    cases v <;> first | rfl | cases h1
theorem sw2 {env : Env} {x y : Str} {px py pt p2 : Pos} {kt k2 : Nat} {a b : Expr} (h : swSome env.scope [(x, px), (y, py)] [a, b] = true) :
    swappedStores [.Tuple [.Name x px, .Name y py] kt pt] (.Tuple [a, b] k2 p2) env = pure (some [x, y]) := by
  obtain ⟨h1, h2⟩ := and2 h
  obtain ⟨h2, h3⟩ := and2 h2
  obtain ⟨h3, h4⟩ := and2 h3
  obtain ⟨h4, h5⟩ := and2 h4
  obtain ⟨h5, h6⟩ := and2 h5
  have hk : env.scope.kind = .function := by
    split at h1
    · assumption
    · cases h1
  rw [swS_eq]
  unfold swS
  simp only [List.all_cons, List.all_nil, Bool.and_true, List.head?_cons, Option.map_some, Option.getD_some] at h3
  obtain ⟨q1, q2⟩ := and2 h3
  have e3 : ([Expr.Name x px, Expr.Name y py].filterMap fun
      | .Name id pos => if env.scope.names.lookup id == some .local && pos.line == (([Expr.Name x px, Expr.Name y py].head?.map (·.pos.line)).getD 0) then some id else none
      | _ => none) = [x, y] := by
    show (List.filterMap _ [Expr.Name x px, Expr.Name y py]) = _
    rw [List.filterMap_cons, List.filterMap_cons, List.filterMap_nil]
    simp only [show (([Expr.Name x px, Expr.Name y py].head?.map (·.pos.line)).getD 0) = px.line from rfl, q1, q2, if_true]
  simp only []
  rw [e3, anyStar h2]
  have e4 : [x, y].eraseDups.length = 2 := by simpa using h4
  simp only [hk, e4, bnot h5, bnot h6]
  rfl
theorem sw3 {env : Env} {x y z : Str} {px py pz pt p2 : Pos} {kt k2 : Nat} {a b c : Expr} (h : swSome env.scope [(x, px), (y, py), (z, pz)] [a, b, c] = true) :
    swappedStores [.Tuple [.Name x px, .Name y py, .Name z pz] kt pt] (.Tuple [a, b, c] k2 p2) env = pure (some [x, y, z]) := by
  obtain ⟨h1, h2⟩ := and2 h
  obtain ⟨h2, h3⟩ := and2 h2
  obtain ⟨h3, h4⟩ := and2 h3
  obtain ⟨h4, h5⟩ := and2 h4
  obtain ⟨h5, h6⟩ := and2 h5
  have hk : env.scope.kind = .function := by
    split at h1
    · assumption
    · cases h1
  rw [swS_eq]
  unfold swS
  simp only [List.all_cons, List.all_nil, Bool.and_true, List.head?_cons, Option.map_some, Option.getD_some] at h3
  obtain ⟨q1, q2⟩ := and2 h3
  obtain ⟨q2, q3⟩ := and2 q2
  have e3 : ([Expr.Name x px, Expr.Name y py, Expr.Name z pz].filterMap fun
      | .Name id pos => if env.scope.names.lookup id == some .local && pos.line == (([Expr.Name x px, Expr.Name y py, Expr.Name z pz].head?.map (·.pos.line)).getD 0) then some id else none
      | _ => none) = [x, y, z] := by
    show (List.filterMap _ [Expr.Name x px, Expr.Name y py, Expr.Name z pz]) = _
    rw [List.filterMap_cons, List.filterMap_cons, List.filterMap_cons, List.filterMap_nil]
    simp only [show (([Expr.Name x px, Expr.Name y py, Expr.Name z pz].head?.map (·.pos.line)).getD 0) = px.line from rfl, q1, q2, q3, if_true]
  simp only []
  rw [e3, anyStar h2]
  have e4 : [x, y, z].eraseDups.length = 3 := by simpa using h4
  simp only [hk, e4, bnot h5, bnot h6]
  rfl
end LT

namespace LT
open PySem PySem.Spec PyProof.Rows L2
theorem zip_lookup {n : Str} : ∀ {ps : List Str} {us : List Value}, us.length = ps.length → n ∈ ps → ((ps.zip us).lookup n).isSome = true
  | [], _, _, h => by cases h
  | p :: ps, [], h, _ => by cases h
  | p :: ps, u :: us, hl, h => by
    show (List.lookup n ((p, u) :: ps.zip us)).isSome = true
    rw [List.lookup_cons]
    cases e : n == p with
    | true => rfl
    | false =>
      rcases List.mem_cons.mp h with q | q
      · rw [q] at e
        simp at e
      · exact zip_lookup (Nat.succ.inj hl) q
theorem zip_back : ∀ {ps : List Str} {us : List Value} (pre : List (Str × Value)), us.length = ps.length → ps.Nodup → (∀ q ∈ pre, q.1 ∉ ps) → ps.filterMap (fun n => ((pre ++ ps.zip us).lookup n).map (n, ·)) = ps.zip us
  | [], us, _, _, _, _ => by cases us <;> rfl
  | p :: ps, [], _, h, _, _ => by cases h
  | p :: ps, u :: us, pre, hl, nd, hp => by
    have hno : ∀ (l : List (Str × Value)), (∀ q ∈ l, q.1 ≠ p) → (l ++ (p, u) :: ps.zip us).lookup p = some u := by
      intro l
      induction l with
      | nil =>
        intro _
        show List.lookup p ((p, u) :: ps.zip us) = some u
        rw [List.lookup_cons]
        simp
      | cons q l ih =>
        intro hq
        show List.lookup p (q :: (l ++ (p, u) :: ps.zip us)) = some u
        obtain ⟨a, b⟩ := q
        rw [List.lookup_cons]
        have : (p == a) = false := by
          have := hq (a, b) List.mem_cons_self
          simpa using fun e : p = a => this e.symm
        rw [this]
        exact ih fun q hm => hq q (List.mem_cons_of_mem _ hm)
    have e1 : (pre ++ (p, u) :: ps.zip us).lookup p = some u := hno pre fun q hq e => hp q hq (by rw [e]; exact List.mem_cons_self)
    show List.filterMap (fun n => ((pre ++ (p, u) :: ps.zip us).lookup n).map (n, ·)) (p :: ps) = (p, u) :: ps.zip us
    rw [List.filterMap_cons, e1]
    have ih := zip_back (ps := ps) (us := us) (pre ++ [(p, u)]) (Nat.succ.inj hl) (List.nodup_cons.mp nd).2 (fun q hq => by
      rcases List.mem_append.mp hq with h | h
      · exact fun z => hp q h (List.mem_cons_of_mem _ z)
      · rw [List.mem_singleton.mp h]
        exact (List.nodup_cons.mp nd).1)
    rw [List.append_assoc] at ih
    show (p, u) :: _ = _
    rw [show (pre ++ (p, u) :: ps.zip us) = (pre ++ ([(p, u)] ++ ps.zip us)) from rfl, ih]
def plainArgs (a : Arguments) (ps : List Str) : Bool :=
  a.posonlyargs.isEmpty && (decide (a.args.map (·.arg) = ps) && (a.vararg.isNone && (a.kwonlyargs.isEmpty && (a.kwarg.isNone && decide ps.Nodup))))
theorem bind_plain {x qual : Str} {params : Arguments} {body : List Stmt} {scope : Scope} {kV doc pm : Value} {an : Option Addr} {cdv ct : Value} {ps : List Str} (h : plainArgs params ps = true) {us : List Value} (hl : us.length = ps.length) :
    bindArgs (PySem.W.fnOf x qual params body scope .none kV doc pm an cdv ct) ⟨us, []⟩ = pure (ps.zip us) := by
  obtain ⟨h1, h2⟩ := and2 h
  obtain ⟨h2, h3⟩ := and2 h2
  obtain ⟨h3, h4⟩ := and2 h3
  obtain ⟨h4, h5⟩ := and2 h4
  obtain ⟨h5, h6⟩ := and2 h5
  have e1 : params.posonlyargs = [] := List.isEmpty_iff.mp h1
  have e2 : params.args.map (·.arg) = ps := of_decide_eq_true h2
  have e3 : params.vararg = none := Option.isNone_iff_eq_none.mp h3
  have e4 : params.kwonlyargs = [] := List.isEmpty_iff.mp h4
  have e5 : params.kwarg = none := Option.isNone_iff_eq_none.mp h5
  have nd : ps.Nodup := of_decide_eq_true h6
  have m1 : ps.filter (fun n => ((ps.zip us).lookup n).isNone) = [] := by
    rw [List.filter_eq_nil_iff]
    intro n hn
    have := zip_lookup hl hn
    simp [Option.isSome_iff_exists] at this
    obtain ⟨a, ha⟩ := this
    rw [ha]
    simp
  have m2 := zip_back (ps := ps) (us := us) [] hl nd (by simp)
  simp only [List.nil_append] at m2
  unfold bindArgs
  simp only [PySem.W.fnOf, e1, e2, e3, e4, e5, List.map_nil, List.nil_append, List.append_nil]
  simp [seqItems?, hl, m1, m2]
  rfl
end LT

namespace LT
open PySem PySem.Spec PyProof.Rows L2
def fbT : Str → Bool := fun _ => true
def ipOp : Operator → Bool
  | .Add => true
  | .Sub => true
  | _ => false
def ltB (n m : Nat) : Bool := n != m
mutual
def chkS (F : Nat → Option Str) (N : List Str) (sc : Scope) : CS → Stmt → Bool
  | .pass, s => match s with
    | .Pass _ => true
    | _ => false
  | .expr e, s => match s with
    | .Expr e' _ => !isLComp e' && chkE F N e sc e'
    | _ => false
  | .ret e, s => match s with
    | .Return (some e') _ => chkE F N e sc e'
    | _ => false
  | .retN, s => match s with
    | .Return none _ => true
    | _ => false
  | .ifs c a b, s => match s with
    | .If c' a' b' _ => chkB F N c sc c' && (chkSs F N sc a a' && chkSs F N sc b b')
    | _ => false
  | .asg t e, s => match s with
    | .Assign [t'] e' _ => chkT N fbT sc t t' && (swNone sc t' e' && chkE F N e sc e')
    | _ => false
  | .asgO i e, s => match s with
    | .Assign [.Name x _] e' _ => decide (N[i]? = some x) && (locB sc x && chkE F N e sc e')
    | _ => false
  | .fz _, s => false
  | .par2 _ _ i j a b, s => match s with
    | .Assign [.Tuple [.Name x px, .Name y py] _ _] (.Tuple [a', b'] _ _) _ => decide (N[i]? = some x) && (decide (N[j]? = some y) && (ltB i j && (lclB sc x && (lclB sc y && (swSome sc [(x, px), (y, py)] [a', b'] && chkA F N [a, b] sc [a', b'])))))
    | _ => false
  | .par3 _ _ _ i j l a b c, s => match s with
    | .Assign [.Tuple [.Name x px, .Name y py, .Name z pz] _ _] (.Tuple [a', b', c'] _ _) _ => decide (N[i]? = some x) && (decide (N[j]? = some y) && (decide (N[l]? = some z) && (ltB i j && (ltB i l && (ltB j l && (lclB sc x && (lclB sc y && (lclB sc z && (swSome sc [(x, px), (y, py), (z, pz)] [a', b', c'] && chkA F N [a, b, c] sc [a', b', c'])))))))))
    | _ => false
  | .aug i op e, s => match s with
    | .AugAssign (.Name x _) op' e' _ => decide (N[i]? = some x) && (locB sc x && (beqOp op op' && (ipOp op && chkE F N e sc e')))
    | _ => false
  | .setIx o i e, s => match s with
    | .Assign [.Subscript o' i' _] e' _ => !isSlice i' && (chkE F N o sc o' && (chkE F N i sc i' && chkE F N e sc e'))
    | _ => false
  | .augIx o i op e, s => match s with
    | .AugAssign (.Subscript o' i' _) op' e' _ => !isSlice i' && (beqOp op op' && (ipOp op && (chkE F N o sc o' && (chkE F N i sc i' && chkE F N e sc e'))))
    | _ => false
  | .forS t it body, s => match s with
    | .For t' it' body' [] _ => !isSet it' && (chkT N fbT sc t t' && (chkI F N it sc t' it' && chkSs F N sc body body'))
    | _ => false
def chkSs (F : Nat → Option Str) (N : List Str) (sc : Scope) : List CS → List Stmt → Bool
  | [], ss => match ss with
    | [] => true
    | _ => false
  | c :: cs, ss => match c with
    | .fz _ => chkSs F N sc cs ss
    | _ => match ss with
      | [] => false
      | s :: ss => chkS F N sc c s && chkSs F N sc cs ss
end
theorem get_list {X : Cx} : PGet X (fun x y H Q => rIxL X.K x y H Q) := by
  intro pins s σ H x y v u Q I rx ry h
  obtain ⟨p, xs, i, z, rfl, rfl, hq, he, q⟩ := h
  cases rx
  obtain ⟨t, rfl⟩ := ry
  obtain ⟨its, r, pl, hz⟩ := I.list hq
  obtain ⟨j, h1, h2, h3, h4, h5⟩ := atI_get he
  obtain ⟨w, ew, rw'⟩ := r.get h2
  have hl := r.length
  have hn := line63
  have fin : EP X pins σ Q w s := ⟨z, H, I, rw', q⟩
  by_cases h0 : 0 ≤ i
  · have hj : i.toNat = j := by
      rw [seqIndex_of h0 h5] at h1
      exact Option.some.inj h1
    exact wpAny_getItem_list pl.isList h0 (by omega) (by rw [hj]; simpa using ew) fin
  · have hj : (i + (its.toArray.size : Int)).toNat = j := by
      rw [seqIndex_neg (by omega) h4] at h1
      rw [List.size_toArray, ← hl]
      exact Option.some.inj h1
    exact wpAny_getItem_list_neg pl.isList (by omega) (by rw [List.size_toArray] <;> omega) (by omega) (by rw [hj]; simpa using ew) fin
theorem ipR {X : Cx} (op : Operator) : PIp X op (rIp X.K op) := by
  cases op with
  | Add =>
    intro pins s σ H x y v u Q I rx ry h
    rcases h with h | h
    · exact ip_add pins s σ H x y v u Q I rx ry h
    · exact iop_ext pins s σ H x y v u Q I rx ry h
  | Sub => exact ip_sub
  | _ => exact fun _ _ _ _ _ _ _ _ _ _ _ _ h => h.elim
theorem aug_of {i : Expr} (h : isSlice i = false) (ov iv new : Value) : augStore i ov iv new = (do holding [new, ov, iv] (setItem ov iv new); release [new, ov, iv] []; pure .next) := by
  cases i <;> first | rfl | cases h
theorem asg_of {o i : Expr} {p : Pos} {env : Env} (h : isSlice i = false) (v : Value) : assign (.Subscript o i p) env v = (do
      let ov ← holding [v] (eval o env)
      let iv ← holding [v, ov] (eval i env)
      standAt p
      holding [v, ov, iv] (setItem ov iv v)
      release [v, ov, iv] []) := by
  cases i <;> first | rfl | cases h
theorem swSole_of {t e : Expr} {l : Nat} {env : Env} (h : (match t with | .Name _ _ => false | _ => true) = true) : swapsWithSole [t] e l env = pure false := by
  unfold swapsWithSole swapsWith
  cases t <;> first | (cases h; done) | (cases e <;> rfl)
theorem swE_of {e : Expr} {l : Nat} {env : Env} (h : isLComp e = false) (t : Option Expr) : swapsWith e t l env = pure false := by
  unfold swapsWith
  cases e <;> first | rfl | cases h
section
variable {Γ : Nat → Sp} {F : Nat → Option Str} {N : List Str} {k : Nat}
theorem ok_set {X : Cx} {sc : Scope} {W : WX} (c : Cok X Γ F N k sc) (tk : Takes X W) (hfb : ∀ x, X.fn x = true) (hblk : X.env.scope.kind = .function) {i : Nat} {x : Str} {p' pos : Pos} {ce : CE} {e : Expr} (hN : N[i]? = some x) (hx : L2.Loc sc x) (h : chkE F N ce sc e = true) :
    PS X (.Assign [.Name x p'] e pos) (tAsg (semE Γ X.K ce W) (gName i)) := by
  have plain : swapsWith e (some (.Name x p')) pos.line X.env = pure false → PS X (.Assign [.Name x p'] e pos) (tAsg (semE Γ X.K ce W) (gName i)) := fun hs =>
    ps_set (by rw [c.hN]; exact c.nd) (by rw [c.hN]; exact hN) (by rw [c.scope]; exact hx) (okE c tk ce e h) hs (.inl (hfb x))
  cases he : isLComp e with
  | false => exact plain (swE_of he _)
  | true =>
    cases e with
    | ListComp elt' gs scope p =>
      cases hb : (X.env.blockKind == .function && X.env.kindOf x == some .local && p'.line == p.line && !(scope.names.any fun (n, k) => n == x && (k == .local || k == .cell))) with
      | false => exact plain (by unfold swapsWith; show (pure _ : Sem Bool) = pure false; exact congrArg pure hb)
      | true =>
        have hsw : swapsWith (.ListComp elt' gs scope p) (some (.Name x p')) pos.line X.env = pure true := by unfold swapsWith; show (pure _ : Sem Bool) = pure true; exact congrArg pure hb
        have hloc : X.env.scope.names.lookup x = some .local := by
          simp only [Bool.and_eq_true] at hb
          have := hb.1.1.2
          simpa [Env.kindOf] using this
        cases ce with
        | lc elt tg it own =>
          match gs, h, hsw with
          | [⟨tg', it', [], as⟩], h, hsw =>
            obtain ⟨h2, h3⟩ := and2 (show (decide (as = 0) && (!isSet it' && (blkC N sc scope own && (chkT N (fbOf scope) (relab scope sc) tg tg' && (chkI F N it sc tg' it' && chkE F N elt (relab scope sc) elt'))))) = true from h)
            obtain ⟨h3, h4⟩ := and2 h3
            obtain ⟨h4, h5⟩ := and2 h4
            obtain ⟨h5, h6⟩ := and2 h5
            obtain ⟨h6, h7⟩ := and2 h6
            have e2 : as = 0 := of_decide_eq_true h2
            subst e2
            exact ps_setLc c.calm (by rw [c.hN]; exact c.nd) (by rw [c.hN]; exact hN) hloc hsw (okI c tk it tg' it' h6) (by rw [c.hN, c.scope]; exact blkOk_by h4) (fun s H C cl fp => okT (c.blk s H scope C cl fp) (fun _ z => z) tg tg' h5)
              (fun _ _ _ _ _ => pts_nil) (fun s H C cl fp => okE (W := W0) (c.blk s H scope C cl fp) takes0 elt elt' h7) (fun x => fold_of (bnot h3) x)
        | lcIf elt tg it t own =>
          match gs, h, hsw with
          | [⟨tg', it', [t'], as⟩], h, hsw =>
            obtain ⟨h2, h3⟩ := and2 (show (decide (as = 0) && (!isSet it' && (blkC N sc scope own && (chkT N (fbOf scope) (relab scope sc) tg tg' && (chkI F N it sc tg' it' && (chkB F N t (relab scope sc) t' && chkE F N elt (relab scope sc) elt')))))) = true from h)
            obtain ⟨h3, h4⟩ := and2 h3
            obtain ⟨h4, h5⟩ := and2 h4
            obtain ⟨h5, h6⟩ := and2 h5
            obtain ⟨h6, h7⟩ := and2 h6
            obtain ⟨h7, h8⟩ := and2 h7
            have e2 : as = 0 := of_decide_eq_true h2
            subst e2
            exact ps_setLc c.calm (by rw [c.hN]; exact c.nd) (by rw [c.hN]; exact hN) hloc hsw (okI c tk it tg' it' h6) (by rw [c.hN, c.scope]; exact blkOk_by h4) (fun s H C cl fp => okT (c.blk s H scope C cl fp) (fun _ z => z) tg tg' h5)
              (fun s H C cl fp => pts_one (okB (W := W0) (c.blk s H scope C cl fp) takes0 t t' h7).1) (fun s H C cl fp => okE (W := W0) (c.blk s H scope C cl fp) takes0 elt elt' h8) (fun x => fold_of (bnot h3) x)
        | _ => cases h
    | _ => first | (cases he; done) | (cases ce <;> cases h)
theorem neB {n m : Nat} (h : ltB n m = true) : n ≠ m := by
  unfold ltB at h
  simpa using h
mutual
theorem okS {X : Cx} {sc : Scope} {W : WX} (c : Cok X Γ F N k sc) (tk : Takes X W) (po : PassesOwn (model X.prog X.w) X.A X.env X.xe) (hfb : ∀ x, X.fn x = true) (hblk : X.env.scope.kind = .function) : ∀ (cs : CS) (st : Stmt), chkS F N sc cs st = true → PS X st (semS Γ X.K cs W)
  | .pass, st, h => by
    cases st with
    | Pass p => exact ps_pass
    | _ => cases h
  | .expr e, st, h => by
    cases st with
    | Expr e' p =>
      obtain ⟨h1, h2⟩ := and2 (show (!isLComp e' && chkE F N e sc e') = true from h)
      exact ps_expr (okE c tk e e' h2) (swE_of (bnot h1) _)
    | _ => cases h
  | .ret e, st, h => by
    cases st with
    | Return v p =>
      cases v with
      | some e' => exact ps_ret (okE c tk e e' h)
      | none => cases h
    | _ => cases h
  | .retN, st, h => by
    cases st with
    | Return v p =>
      cases v with
      | some e' => cases h
      | none => exact ps_retN
    | _ => cases h
  | .ifs t a b, st, h => by
    cases st with
    | If t' a' b' p =>
      obtain ⟨h1, h2⟩ := and2 (show (chkB F N t sc t' && (chkSs F N sc a a' && chkSs F N sc b b')) = true from h)
      obtain ⟨h2, h3⟩ := and2 h2
      exact ps_if (okB c tk t t' h1).1 (okSs c tk po hfb hblk a a' h2) (okSs c tk po hfb hblk b b' h3)
    | _ => cases h
  | .asg t e, st, h => by
    cases st with
    | Assign ts e' p =>
      match ts, h with
      | [t'], h =>
        obtain ⟨h1, h2⟩ := and2 (show (chkT N fbT sc t t' && (swNone sc t' e' && chkE F N e sc e')) = true from h)
        obtain ⟨h2, h3⟩ := and2 h2
        cases t with
        | name i =>
          cases t' with
          | Name x p' =>
            obtain ⟨g1, g2⟩ := and2 (show (decide (N[i]? = some x) && (locB sc x && (fbT x || lclB sc x))) = true from h1)
            exact ok_set c tk hfb hblk (of_decide_eq_true g1) (locB_ok (and2 g2).1) h3
          | _ => cases h1
        | tup tts =>
          cases t' with
          | Tuple es' k2 p2 => exact ps_asg (okE c tk e e' h3) (okT c (fb := fbT) (fun x _ => hfb x) (.tup tts) _ h1) (swSole_of rfl) (swNone_ok (by rw [c.scope]; exact h2)) rfl
          | _ => cases h1
    | _ => cases h
  | .asgO i e, st, h => by
    cases st with
    | Assign ts e' p =>
      match ts, h with
      | [.Name x p'], h =>
        obtain ⟨h1, h2⟩ := and2 (show (decide (N[i]? = some x) && (locB sc x && chkE F N e sc e')) = true from h)
        obtain ⟨h2, h3⟩ := and2 h2
        exact ok_set c tk hfb hblk (of_decide_eq_true h1) (locB_ok h2) h3
    | _ => cases h
  | .fz _, st, h => by cases h
  | .par2 _ _ i j a b, st, h => by
    cases st with
    | Assign ts e' p =>
      match ts, e', h with
      | [.Tuple [.Name x px, .Name y py] kt pt], .Tuple [a', b'] k2 p2, h =>
        obtain ⟨h1, h2⟩ := and2 (show (decide (N[i]? = some x) && (decide (N[j]? = some y) && (ltB i j && (lclB sc x && (lclB sc y && (swSome sc [(x, px), (y, py)] [a', b'] && chkA F N [a, b] sc [a', b'])))))) = true from h)
        obtain ⟨h2, h3⟩ := and2 h2
        obtain ⟨h3, h4⟩ := and2 h3
        obtain ⟨h4, h5⟩ := and2 h4
        obtain ⟨h5, h6⟩ := and2 h5
        obtain ⟨h6, h7⟩ := and2 h6
        exact ps_par c.calm (by rw [c.hN]; exact c.nd) (by rw [c.hN]; exact of_decide_eq_true h1) (by rw [c.hN]; exact of_decide_eq_true h2) (neB h3) (by rw [c.scope]; exact lclB_ok h4) (by rw [c.scope]; exact lclB_ok h5) (okA c tk [a, b] [a', b'] h7) (sw2 (by rw [c.scope]; exact h6)) (swSole_of rfl)
    | _ => cases h
  | .par3 _ _ _ i j l a b d, st, h => by
    cases st with
    | Assign ts e' p =>
      match ts, e', h with
      | [.Tuple [.Name x px, .Name y py, .Name z pz] kt pt], .Tuple [a', b', d'] k2 p2, h =>
        obtain ⟨h1, h2⟩ := and2 (show (decide (N[i]? = some x) && (decide (N[j]? = some y) && (decide (N[l]? = some z) && (ltB i j && (ltB i l && (ltB j l && (lclB sc x && (lclB sc y && (lclB sc z && (swSome sc [(x, px), (y, py), (z, pz)] [a', b', d'] && chkA F N [a, b, d] sc [a', b', d'])))))))))) = true from h)
        obtain ⟨h2, h3⟩ := and2 h2
        obtain ⟨h3, h4⟩ := and2 h3
        obtain ⟨h4, h5⟩ := and2 h4
        obtain ⟨h5, h6⟩ := and2 h5
        obtain ⟨h6, h7⟩ := and2 h6
        obtain ⟨h7, h8⟩ := and2 h7
        obtain ⟨h8, h9⟩ := and2 h8
        obtain ⟨h9, h10⟩ := and2 h9
        obtain ⟨h10, h11⟩ := and2 h10
        exact ps_par3 c.calm (by rw [c.hN]; exact c.nd) (by rw [c.hN]; exact of_decide_eq_true h1) (by rw [c.hN]; exact of_decide_eq_true h2) (by rw [c.hN]; exact of_decide_eq_true h3) (neB h4) (neB h5) (neB h6) (by rw [c.scope]; exact lclB_ok h7) (by rw [c.scope]; exact lclB_ok h8) (by rw [c.scope]; exact lclB_ok h9) (okA c tk [a, b, d] [a', b', d'] h11) (sw3 (by rw [c.scope]; exact h10)) (swSole_of rfl)
    | _ => cases h
  | .aug i op e, st, h => by
    cases st with
    | AugAssign t' op' e' p =>
      cases t' with
      | Name x p' =>
        obtain ⟨h1, h2⟩ := and2 (show (decide (N[i]? = some x) && (locB sc x && (beqOp op op' && (ipOp op && chkE F N e sc e')))) = true from h)
        obtain ⟨h2, h3⟩ := and2 h2
        obtain ⟨h3, h4⟩ := and2 h3
        obtain ⟨h4, h5⟩ := and2 h4
        have e1 : op = op' := of_decide_eq_true h3
        have g2 := locB_ok h2
        have g5 := okE c tk e e' h5
        subst e1
        exact ps_aug (by rw [c.hN]; exact c.nd) (by rw [c.hN]; exact of_decide_eq_true h1) (by rw [c.scope]; exact g2) g5 (ipR op) (.inl (hfb x))
      | _ => cases h
    | _ => cases h
  | .setIx o i e, st, h => by
    cases st with
    | Assign ts e' p =>
      match ts, h with
      | [.Subscript o' i' p'], h =>
        obtain ⟨h1, h2⟩ := and2 (show (!isSlice i' && (chkE F N o sc o' && (chkE F N i sc i' && chkE F N e sc e'))) = true from h)
        obtain ⟨h2, h3⟩ := and2 h2
        obtain ⟨h3, h4⟩ := and2 h3
        exact ps_asg (okE c tk e e' h4) (pg_sub (okE c tk o o' h2) (okE c tk i i' h3) set_list (asg_of (bnot h1))) (swSole_of rfl) (swNone_ok (by cases e' <;> rfl)) rfl
    | _ => cases h
  | .augIx o i op e, st, h => by
    cases st with
    | AugAssign t' op' e' p =>
      cases t' with
      | Subscript o' i' p' =>
        obtain ⟨h1, h2⟩ := and2 (show (!isSlice i' && (beqOp op op' && (ipOp op && (chkE F N o sc o' && (chkE F N i sc i' && chkE F N e sc e'))))) = true from h)
        obtain ⟨h2, h3⟩ := and2 h2
        obtain ⟨h3, h4⟩ := and2 h3
        obtain ⟨h4, h5⟩ := and2 h4
        obtain ⟨h5, h6⟩ := and2 h5
        have e1 : op = op' := of_decide_eq_true h2
        subst e1
        exact ps_augS (okE c tk o o' h4) (okE c tk i i' h5) get_list (okE c tk e e' h6) (ipR op) set_list (aug_of (bnot h1))
      | _ => cases h
    | _ => cases h
  | .forS t it body, st, h => by
    cases st with
    | For t' it' body' els p =>
      match els, h with
      | [], h =>
        obtain ⟨h1, h2⟩ := and2 (show (!isSet it' && (chkT N fbT sc t t' && (chkI F N it sc t' it' && chkSs F N sc body body'))) = true from h)
        obtain ⟨h2, h3⟩ := and2 h2
        obtain ⟨h3, h4⟩ := and2 h3
        exact ps_for po c.calm (okI c tk it t' it' h3) (okT c (fb := fbT) (fun x _ => hfb x) t t' h2) (okSs c tk po hfb hblk body body' h4) (fun x => fold_of (bnot h1) x)
    | _ => cases h
theorem okSs {X : Cx} {sc : Scope} {W : WX} (c : Cok X Γ F N k sc) (tk : Takes X W) (po : PassesOwn (model X.prog X.w) X.A X.env X.xe) (hfb : ∀ x, X.fn x = true) (hblk : X.env.scope.kind = .function) : ∀ (cs : List CS) (sts : List Stmt), chkSs F N sc cs sts = true → PSs X sts (semSs Γ X.K cs W)
  | [], sts, h => by
    cases sts with
    | nil => exact pss_nil
    | cons _ _ => cases h
  | cs :: css, sts, h => by
    by_cases hz : ∃ is, cs = .fz is
    · obtain ⟨is, rfl⟩ := hz
      have h2 : chkSs F N sc css sts = true := h
      exact okSs c tk po hfb hblk css sts h2
    · cases sts with
      | nil => cases cs <;> first | (exact absurd ⟨_, rfl⟩ hz) | cases h
      | cons s ss =>
        have h' : (chkS F N sc cs s && chkSs F N sc css ss) = true := by
          cases cs <;> first | (exact absurd ⟨_, rfl⟩ hz) | exact h
        obtain ⟨h1, h2⟩ := and2 h'
        exact pss_cons (okS c tk po hfb hblk cs s h1) (okSs c tk po hfb hblk css ss h2)
end
end
end LT

namespace LT
open PySem PySem.Spec PyProof.Rows L2
structure Fd where
  id : Nat
  name : Str
  N : List Str
  ps : List Str
  body : List CS
def names (pre : List Fd) (i : Nat) : Option Str := (pre.find? fun d => d.id == i).map (·.name)
def scopeB (N ps : List Str) (sc : Scope) : Bool :=
  (match sc.kind with | .function => true | _ => false) && (!sc.isCoroutine && (!sc.isGenerator && (decide N.Nodup && (decide (N.take ps.length = ps) && ((ps.all fun x => locB sc x) && sc.names.all fun y => match y.2 with | .free => false | _ => true)))))
theorem scopeB_ok {N ps : List Str} {sc : Scope} (h : scopeB N ps sc = true) : FnScope N ps sc := by
  obtain ⟨h1, h2⟩ := and2 h
  obtain ⟨h2, h3⟩ := and2 h2
  obtain ⟨h3, h4⟩ := and2 h3
  obtain ⟨h4, h5⟩ := and2 h4
  obtain ⟨h5, h6⟩ := and2 h5
  obtain ⟨h6, h7⟩ := and2 h6
  refine ⟨?_, bnot h2, bnot h3, of_decide_eq_true h4, of_decide_eq_true h5, fun x hx => locB_ok (List.all_eq_true.mp h6 x hx), fun y hy e => ?_⟩
  · split at h1
    · assumption
    · cases h1
  · have := List.all_eq_true.mp h7 y hy
    rw [e] at this
    cases this
def chkFd (pre : List Fd) (d : Fd) (st : Stmt) : Bool :=
  scopeB d.N d.ps (defScope st) && (plainArgs (defArgs st) d.ps && chkSs (names pre) d.N (defScope st) d.body (defBody st))
def chkTab (top : Str → Stmt) : List Fd → List Fd → Bool
  | _, [] => true
  | pre, d :: ds => chkFd pre d (top d.name) && chkTab top (pre ++ [d]) ds
def Obl (Γ : Nat → Sp) (K : PySem.W.Frag) (d : Fd) : Prop := ∀ (vs : List V) (H : Hp) (Q : VK) (E : XK), Γ d.id vs H Q E → vs.length = d.ps.length ∧ semSs Γ K d.body (fun cls dd _ H => E cls dd H) { nx := fun _ H' => Q .non H', rt := Q } (start d.N vs) H
section
variable {P : Program} {w : World} {K : PySem.W.Frag} {mg : Str → Option Value} {base : Heap} {Γ : Nat → Sp}
def Good (P : Program) (w : World) (K : PySem.W.Frag) (mg : Str → Option Value) (base : Heap) (Γ : Nat → Sp) (n : Nat) (d : Fd) : Prop :=
  ∃ (f : Addr) (fd : FuncData), FnOk P w K mg base (L2.CX P w) n f fd d.ps (Γ d.id) ∧ mg d.name = some (.ref f) ∧ PySem.W.keepIn K (.ref f) = true ∧ Binds K fd d.ps [] ∧ ∃ oc od osl, K.lookup f = some ⟨oc, od, .func fd, osl⟩
theorem Good.mono {n m : Nat} {d : Fd} (h : Good P w K mg base Γ n d) (l : n ≤ m) : Good P w K mg base Γ m d := by
  obtain ⟨f, fd, h1, h2, h3, h4⟩ := h
  exact ⟨f, fd, h1.mono l, h2, h3, h4⟩
structure Free (mg : Str → Option Value) : Prop where
  blt : ∀ b : Bt, mg b.nm = none
  rng : mg "range" = none
  enu : mg "enumerate" = none
  zip : mg "zip" = none
def FdAt (K : PySem.W.Frag) (mg : Str → Option Value) (d : Fd) (st : Stmt) : Prop := ∃ (f : Addr) (fd : FuncData), FunD K d.name d.name (defArgs st) (defBody st) (defScope st) [] [] f fd ∧ mg d.name = some (.ref f)
theorem fd_ok {n : Nat} {pre : List Fd} {d : Fd} {st : Stmt} (fr : Free mg) (hp : ∀ e ∈ pre, Good P w K mg base Γ n e) (hc : chkFd pre d st = true) (ha : FdAt K mg d st) (ho : Obl Γ K d) : Good P w K mg base Γ (n + 1) d := by
  obtain ⟨h1, h2⟩ := and2 hc
  obtain ⟨h2, h3⟩ := and2 h2
  obtain ⟨f, fd, hF, hm⟩ := ha
  refine ⟨f, fd, FunD.ok hF (scopeB_ok h1) (fun vs H Q E h => (ho vs H Q E h).1) (fun cdv A outer s H vs Q E hr h => ⟨_, ?_, (ho vs H Q E h).2⟩), hm, hF.kp, hF.bindsN fun _ _ _ _ _ _ us hl => bind_plain h2 hl, ?_⟩
  rotate_left
  · obtain ⟨oc, od, dV, kV, doc, pm, an, cdv, ct, osl, e, lk, _⟩ := hF.ex
    exact ⟨oc, od, osl, lk⟩
  have ck : Cok (cxOf (L2.CX P w) P w K mg base d.N d.name (defScope st) f cdv A outer s H E) Γ (names pre) d.N n (defScope st) := {
    scope := rfl
    hN := rfl
    nd := (scopeB_ok h1).nd
    calm := rfl
    room := hr
    blt := fr.blt
    rng := fr.rng
    enu := fr.enu
    zip := fr.zip
    fns := fun i x hi => by
      unfold names at hi
      cases e : pre.find? (fun d => d.id == i) with
      | none =>
        rw [e] at hi
        cases hi
      | some g =>
        rw [e] at hi
        have hx : g.name = x := Option.some.inj hi
        have hid : g.id = i := by
          have := List.find?_some e
          simpa using this
        obtain ⟨f', fd', g1, g2, g3, g4, _⟩ := hp g (List.mem_of_find?_eq_some e)
        subst hx hid
        exact ⟨f', fd', g.ps, g1, g2, g3, g4⟩ }
  exact okSs ck (takes_of rfl rfl rfl rfl) (passes_of rfl) (fun _ => rfl) (scopeB_ok h1).kind d.body (defBody st) h3
theorem tab_ok {top : Str → Stmt} (fr : Free mg) : ∀ (ds pre : List Fd) (n : Nat), (∀ e ∈ pre, Good P w K mg base Γ n e) → chkTab top pre ds = true → (∀ d ∈ ds, FdAt K mg d (top d.name)) → (∀ d ∈ ds, Obl Γ K d) → ∀ e ∈ pre ++ ds, Good P w K mg base Γ (n + ds.length) e
  | [], pre, n, hp, _, _, _, e, he => hp e (by simpa using he)
  | d :: ds, pre, n, hp, hc, ha, ho, e, he => by
    obtain ⟨h1, h2⟩ := and2 (show (chkFd pre d (top d.name) && chkTab top (pre ++ [d]) ds) = true from hc)
    have g := fd_ok fr hp h1 (ha d List.mem_cons_self) (ho d List.mem_cons_self)
    have r := tab_ok fr ds (pre ++ [d]) (n + 1) (fun x hx => by
      rcases List.mem_append.mp hx with q | q
      · exact (hp x q).mono (Nat.le_succ n)
      · rw [List.mem_singleton.mp q]
        exact g) h2 (fun x hx => ha x (List.mem_cons_of_mem _ hx)) (fun x hx => ho x (List.mem_cons_of_mem _ hx)) e (by simpa using he)
    exact r.mono (by rw [List.length_cons]; omega)
end
end LT

namespace LT
open PySem PySem.Spec PyProof.Rows L2
theorem calmFn {P : Program} {w : World} {K : PySem.W.Frag} {mg : Str → Option Value} {base : Heap} {k : Nat} {f : Addr} {fd : FuncData} {ps : List Str} {sp : Sp} (F : FnOk P w K mg base (L2.CX P w) k f fd ps sp) :
    FnOk P w K mg base CX0 k f fd ps (fun vs H Q _ => sp vs H Q fun _ _ _ => False) := by
  refine ⟨fun vs H Q E h => F.len _ _ _ _ h, fun A outer s H args us vs Q E hr he hb hv hs => codeAny_mono (F.run A outer s H args us vs Q _ hr he hb hv hs) fun r s' h => ?_⟩
  cases r with
  | ok fl => cases fl <;> exact h
  | error e =>
    obtain ⟨_, _, _, _, _, _, _, _, _, _, _, _, z⟩ := h
    exact z.elim
def ddOf (top : Str → Stmt) (d : Fd) : He.DefD := ⟨(d.name, none), d.name, d.name, defArgs (top d.name), defBody (top d.name), defScope (top d.name), [], []⟩
def fnsOf (top : Str → Stmt) (tab : List Fd) : List He.DefD := tab.map (ddOf top)
def allBt : List Bt := [.len, .abs, .max, .min, .int, .list, .tuple, .sum, .all, .any, .sorted]
theorem allBt_mem (b : Bt) : b ∈ allBt := by cases b <;> decide
def fasOf (tab : List Fd) : List He.Fa := (tab.map fun d => .glo d.name) ++ ((allBt.map fun b => .free b.nm) ++ [.free "range", .free "enumerate", .free "zip"])
section
variable {K : PySem.W.Frag} {h : Heap} {mg : Str → Option Value} {top : Str → Stmt} {tab : List Fd}
theorem fa_of (c : He.SaysD (fasOf tab) (fnsOf top tab) K) {f : He.Fa} (hf : f ∈ fasOf tab) : f.ok K = true := by
  obtain ⟨i, hi⟩ := List.mem_iff_getElem?.mp hf
  exact c.fact i hi
theorem free_of (X : K.In h) (G : h.Ns mainGlobals mg) (c : He.SaysD (fasOf tab) (fnsOf top tab) K) : Free mg where
  blt := fun b => He.free_ok X G (fa_of c (by unfold fasOf; exact List.mem_append_right _ (List.mem_append_left _ (List.mem_map_of_mem (allBt_mem b)))))
  rng := He.free_ok X G (fa_of c (by unfold fasOf; exact List.mem_append_right _ (List.mem_append_right _ (by simp))))
  enu := He.free_ok X G (fa_of c (by unfold fasOf; exact List.mem_append_right _ (List.mem_append_right _ (by simp))))
  zip := He.free_ok X G (fa_of c (by unfold fasOf; exact List.mem_append_right _ (List.mem_append_right _ (by simp))))
theorem fdAt_of (X : K.In h) (G : h.Ns mainGlobals mg) (c : He.SaysD (fasOf tab) (fnsOf top tab) K) (d : Fd) (hd : d ∈ tab) : FdAt K mg d (top d.name) := by
  obtain ⟨i, hi⟩ := List.mem_iff_getElem?.mp hd
  obtain ⟨fd, hF⟩ := c.def_ i (d := ddOf top d) (by unfold fnsOf; rw [List.getElem?_map, hi]; rfl)
  refine ⟨_, fd, hF, ?_⟩
  exact He.glo_ok X G (fa_of c (by unfold fasOf; exact List.mem_append_left _ (List.mem_map_of_mem hd)))
end
theorem whole {l : PySem.W.OpenLaw} {w : World} {K : PySem.W.Frag} {h : Heap} {mg : Str → Option Value} {top : Str → Stmt} {tab : List Fd} {Γ : Nat → Sp} {f : Addr} (d : Fd) (hd : d ∈ tab) (hps : d.ps = [x]) (X : K.In h) (G : h.Ns mainGlobals mg) (hfa : mg d.name = some (.ref f))
    (c : He.SaysD (fasOf tab) (fnsOf top tab) K) (hc : chkTab top [] tab = true) (ho : ∀ e ∈ tab, Obl Γ K e) :
    ∃ fd : FuncData, (∀ (s : Shared) (v : Value), BindsTo s fd ⟨[v], []⟩ [(x, v)]) ∧ ∀ base : Heap, K.In base → base.Ns mainGlobals mg → FnOk l.prog w K mg base CX0 tab.length f fd [x] (fun vs H Q _ => Γ d.id vs H Q fun _ _ _ => False) := by
  obtain ⟨f', fd, hF, hm⟩ := fdAt_of X G c d hd
  have e := hfa.symm.trans hm
  cases e
  have hpl : plainArgs (defArgs (top d.name)) d.ps = true := by
    have key : ∀ (ds pre : List Fd), chkTab top pre ds = true → d ∈ ds → ∃ pre', chkFd pre' d (top d.name) = true := by
      intro ds
      induction ds with
      | nil => intro _ _ z; cases z
      | cons a ds ih =>
        intro pre h1 h2
        obtain ⟨g1, g2⟩ := and2 (show (chkFd pre a (top a.name) && chkTab top (pre ++ [a]) ds) = true from h1)
        rcases List.mem_cons.mp h2 with q | q
        · subst q
          exact ⟨pre, g1⟩
        · exact ih _ g2 q
    obtain ⟨pre', g⟩ := key tab [] hc hd
    exact (and2 (and2 g).2).1
  refine ⟨fd, fun s v => ?_, fun base KB GB => ?_⟩
  · have := hF.bindsA (ps := d.ps) (fun _ _ _ _ _ _ us hl => bind_plain hpl hl) s [v] (by rw [hps]; rfl)
    rw [hps] at this
    exact this
  · obtain ⟨f2, fd2, g1, g2, g3, g4, oc, od, osl, g5⟩ := tab_ok (P := l.prog) (w := w) (base := base) (Γ := Γ) (free_of X G c) tab [] 0 (by simp) hc (fun e he => fdAt_of X G c e he) ho d (by simpa using hd)
    have e2 := hm.symm.trans g2
    cases e2
    obtain ⟨oc', od', _, _, _, _, _, _, _, osl', _, lk, _⟩ := hF.ex
    rw [lk] at g5
    cases g5
    have r := calmFn g1
    rw [hps] at r
    simpa using r
end LT

namespace LT
open PySem PySem.Spec PyProof.Rows L2

inductive D where
  | non
  | bl (b : Bool)
  | int (i : Int)
  | str (s : Str)
  | tup (xs : List D)
  | lst (xs : List D)
  | dct (kvs : List (D × D))
  | obj (c : Nat) (fs : List D)
  | bag
  deriving Inhabited
structure BS where
  c : Int
  s : Int
  i : Int
  xs : List Int
inductive Sl where
  | d (x : D)
  | own (xs : List D)
abbrev Env := List (Option Sl)
abbrev Mir := List D → BS → Option (D × BS)

mutual
def D.eq : D → D → Bool
  | .non, .non => true
  | .bl a, .bl b => a == b
  | .bl a, .int j => (if a then 1 else 0) == j
  | .int i, .bl b => i == (if b then 1 else 0)
  | .int i, .int j => i == j
  | .str x, .str y => x == y
  | .lst xs, .lst ys => D.eqs xs ys
  | .tup xs, .tup ys => D.eqs xs ys
  | _, _ => false
def D.eqs : List D → List D → Bool
  | [], [] => true
  | x :: xs, y :: ys => D.eq x y && D.eqs xs ys
  | _, _ => false
end
mutual
def D.py : D → PyData
  | .non => .none
  | .bl b => .bool b
  | .int i => .int i
  | .str s => .str s
  | .tup xs => .tuple (D.pys xs)
  | .lst xs => .list (D.pys xs)
  | .dct _ => .none
  | .obj _ _ => .none
  | .bag => .none
def D.pys : List D → List PyData
  | [] => []
  | x :: xs => D.py x :: D.pys xs
end
mutual
def D.ok : D → Nat → Bool
  | .tup xs, n => match n with
    | 0 => false
    | n + 1 => D.oks xs n
  | .lst xs, n => match n with
    | 0 => false
    | n + 1 => D.oks xs n
  | .dct _, _ => false
  | .obj _ _, _ => false
  | .bag, _ => false
  | .non, _ => true
  | .bl _, _ => true
  | .int _, _ => true
  | .str s, _ => PyData.strOk s
def D.oks : List D → Nat → Bool
  | [], _ => true
  | x :: xs, n => D.ok x n && D.oks xs n
end
def big : Nat := 10 ^ 100
def dBin : Operator → D → D → Option D
  | .Add, .int x, .int y => some (.int (x + y))
  | .Add, .lst x, .lst y => if x.length + y.length ≤ 1000000 then some (.lst (x ++ y)) else none
  | .Add, .tup x, .tup y => if x.length + y.length ≤ 1000000 then some (.tup (x ++ y)) else none
  | .Add, .str x, .str y => if x.length + y.length ≤ 1000000 then some (.str (x ++ y)) else none
  | .Sub, .int x, .int y => some (.int (x - y))
  | .Mult, .int x, .int y => if (x.natAbs < big ∧ y.natAbs < big) ∨ x.natAbs < 2 ^ 64 ∨ y.natAbs < 2 ^ 64 then some (.int (x * y)) else none
  | .Mult, .lst x, .int y => if 0 ≤ y ∧ y ≤ 100000 ∧ x.length * y.toNat ≤ 1000000 then some (.lst (List.replicate y.toNat x).flatten) else none
  | .FloorDiv, .int x, .int y => if 0 < y ∧ y.natAbs < big then some (.int (x / y)) else none
  | .Mod, .int x, .int y => if 0 < y then some (.int (x % y)) else none
  | .Pow, .int x, .int y => if 0 ≤ y ∧ y ≤ 1000 ∧ x.natAbs < 2 ^ 64 then some (.int (x ^ y.toNat)) else none
  | _, _, _ => none
def dTru : D → Option Bool
  | .non => some false
  | .bl b => some b
  | .int i => some (i != 0)
  | .lst xs => some (!xs.isEmpty)
  | .tup xs => some (!xs.isEmpty)
  | .str s => if s.length ≤ 1000000 then some ((s.length : Int) != 0) else none
  | _ => none
def isNon : D → Bool
  | .non => true
  | _ => false
def dCmp : CmpOp → D → D → Option Bool
  | .Eq, x, y => if x.ok 60 && y.ok 60 then some (D.eq x y) else none
  | .NotEq, x, y => if x.ok 60 && y.ok 60 then some (!D.eq x y) else none
  | .Lt, .int x, .int y => some (decide (x < y))
  | .LtE, .int x, .int y => some (decide (x ≤ y))
  | .Gt, .int x, .int y => some (decide (y < x))
  | .GtE, .int x, .int y => some (decide (y ≤ x))
  | .Is, x, .non => some (isNon x)
  | .IsNot, x, .non => some (!isNon x)
  | .In, x, .lst ys => if x.ok 60 && (D.lst ys).ok 60 then some (ys.any fun y => D.eq y x) else none
  | .NotIn, x, .lst ys => if x.ok 60 && (D.lst ys).ok 60 then some (!ys.any fun y => D.eq y x) else none
  | _, _, _ => none
def intsD : List D → Option (List Int)
  | [] => some []
  | .int i :: r => (intsD r).map (i :: ·)
  | _ :: _ => none
def boolsD : List D → Option (List Bool)
  | [] => some []
  | .bl i :: r => (boolsD r).map (i :: ·)
  | _ :: _ => none
def maxI : List Int → Option Int
  | [] => none
  | x :: r => some (r.foldl (fun a b => if b > a then b else a) x)
def minI : List Int → Option Int
  | [] => none
  | x :: r => some (r.foldl (fun a b => if b < a then b else a) x)
def insI (x : Int) : List Int → List Int
  | [] => [x]
  | y :: r => if x ≤ y then x :: y :: r else y :: insI x r
def sortI : List Int → List Int
  | [] => []
  | x :: r => insI x (sortI r)
def dBlt : Bt → List D → Option D
  | .len, [.lst xs] => some (.int xs.length)
  | .len, [.tup xs] => some (.int xs.length)
  | .len, [.str s] => if s.length ≤ 1000000 then some (.int s.length) else none
  | .abs, [.int i] => some (.int (if i < 0 then -i else i))
  | .max, [.int i, .int j] => some (.int (if j > i then j else i))
  | .max, [.int i, .int j, .int k] => some (.int (max3 i j k))
  | .max, [.lst xs] => ((intsD xs).bind maxI).map .int
  | .min, [.int i, .int j] => some (.int (if j < i then j else i))
  | .min, [.int i, .int j, .int k] => some (.int (min3 i j k))
  | .min, [.lst xs] => ((intsD xs).bind minI).map .int
  | .int, [.int i] => some (.int i)
  | .int, [.bl k] => some (.int (if k then 1 else 0))
  | .tuple, [.lst xs] => some (.tup xs)
  | .tuple, [.tup xs] => some (.tup xs)
  | .sum, [.lst xs] => (intsD xs).map fun l => .int l.sum
  | .all, [.lst xs] => (boolsD xs).map fun l => .bl (l.all id)
  | .any, [.lst xs] => (boolsD xs).map fun l => .bl (l.any id)
  | .list, [.lst xs] => some (.lst xs)
  | .list, [.tup xs] => some (.lst xs)
  | .sorted, [.lst xs] => (intsD xs).map fun l => .lst ((sortI l).map .int)
  | _, _ => none
def dIx : D → D → Option D
  | .lst xs, .int i => atI xs i
  | .tup xs, .int i => atI xs i
  | _, _ => none
def cutD (xs : List D) (lo hi : Option Int) : List D := (xs.drop (HT.sIx xs.length 0 lo)).take (HT.sIx xs.length xs.length hi - HT.sIx xs.length 0 lo)
def dSl : D → Option Int → Option Int → Option D
  | .lst xs, lo, hi => some (.lst (cutD xs lo hi))
  | .tup xs, lo, hi => some (.tup (cutD xs lo hi))
  | _, _, _ => none
def dInt : D → Option Int
  | .int i => some i
  | _ => none
mutual
def bindT : CT → D → Env → Option Env
  | .name i, x, env => some (env.set i (some (.d x)))
  | .tup ts, x, env => match x with
    | .tup xs => bindTs ts xs env
    | .lst xs => bindTs ts xs env
    | _ => none
def bindTs : List CT → List D → Env → Option Env
  | [], xs, env => match xs with
    | [] => some env
    | _ => none
  | t :: ts, xs, env => match xs with
    | [] => none
    | x :: xs => (bindT t x env).bind (bindTs ts xs)
end
mutual
def CT.slots : CT → List Nat
  | .name i => [i]
  | .tup ts => CT.slotss ts
def CT.slotss : List CT → List Nat
  | [] => []
  | t :: ts => CT.slots t ++ CT.slotss ts
end
def tgIn (t : CT) (own : List (Str × Nat)) : Bool := t.slots.all fun i => (own.map (·.2)).contains i
def noOwn (env : Env) (own : List (Str × Nat)) : Bool := (own.map (·.2)).all fun (i : Nat) => match env[i]? with
  | some (some (.own _)) => false
  | _ => true
def wipeE (env : Env) : List Nat → Env
  | [] => env
  | v :: vs => (wipeE env vs).set v none
def peek (env : Env) : CE → Option (List D)
  | .var i => match env[i]? with
    | some (some (.own xs)) => some xs
    | _ => none
  | _ => none
def pk (env : Env) (c : CE) (ev : Option (D × BS)) (β : BS) : Option (D × BS) := match peek env c with
  | some xs => some (.lst xs, β)
  | none => ev
def mapE (f : D → BS → Option (D × BS)) : List D → BS → Option (List D × BS)
  | [], β => some ([], β)
  | x :: xs, β => (f x β).bind fun r => (mapE f xs r.2).map fun q => (r.1 :: q.1, q.2)
def mapIf (t : D → BS → Option (Bool × BS)) (f : D → BS → Option (D × BS)) : List D → BS → Option (List D × BS)
  | [], β => some ([], β)
  | x :: xs, β => (t x β).bind fun b => match b.1 with
    | true => (f x b.2).bind fun r => (mapIf t f xs r.2).map fun q => (r.1 :: q.1, q.2)
    | false => mapIf t f xs b.2
def rangeD (lo : Int) (n : Nat) : List D := (List.range n).map fun k => .int (lo + (k : Nat))
def enumD (xs : List D) : List D := xs.zipIdx.map fun p => .tup [.int (p.2 : Nat), p.1]
def zipD (xs ys : List D) : List D := (xs.zip ys).map fun p => .tup [p.1, p.2]
mutual
def evP (M : Nat → Mir) : CE → Env → BS → Option (D × BS)
  | .var i, env, β => match env[i]? with
    | some (some (.d x)) => some (x, β)
    | _ => none
  | .cst c, _, β => match c with
    | .int i => some (.int i, β)
    | .bool b => some (.bl b, β)
    | .none => some (.non, β)
    | .str s => some (.str s, β)
    | _ => none
  | .tup es, env, β => (evA M es env β).bind fun r => if r.1.length ≤ 1000000 then some (.tup r.1, r.2) else none
  | .lst es, env, β => (evA M es env β).bind fun r => if r.1.length ≤ 1000000 then some (.lst r.1, r.2) else none
  | .bin op a b, env, β => (pk env a (evP M a env β) β).bind fun r => (pk env b (evP M b env r.2) r.2).bind fun q => (dBin op r.1 q.1).map (·, q.2)
  | .neg a, env, β => (evP M a env β).bind fun r => match r.1 with
    | .int i => some (.int (-i), r.2)
    | _ => none
  | .notV a, env, β => (pk env a (evP M a env β) β).bind fun r => (dTru r.1).map fun t => (.bl (!t), r.2)
  | .andV a b, env, β => (evP M a env β).bind fun r => (dTru r.1).bind fun t => match t with
    | true => evP M b env r.2
    | false => some r
  | .orV a b, env, β => (evP M a env β).bind fun r => (dTru r.1).bind fun t => match t with
    | true => some r
    | false => evP M b env r.2
  | .ite c a b, env, β => (evB M c env β).bind fun r => match r.1 with
    | true => evP M a env r.2
    | false => evP M b env r.2
  | .cmp op a b, env, β => (pk env a (evP M a env β) β).bind fun r => (pk env b (evP M b env r.2) r.2).bind fun q => (dCmp op r.1 q.1).map (.bl ·, q.2)
  | .chain o1 o2 a b c, env, β => (evP M a env β).bind fun r => (evP M b env r.2).bind fun q => (dCmp o1 r.1 q.1).bind fun t => match t with
    | true => (evP M c env q.2).bind fun z => (dCmp o2 q.1 z.1).map (.bl ·, z.2)
    | false => some (.bl false, q.2)
  | .call f es, env, β => (evA M es env β).bind fun r => M f r.1 r.2
  | .blt b es, env, β => (evV M es env β).bind fun r => (dBlt b r.1).map (·, r.2)
  | .ix a b, env, β => (pk env a (evP M a env β) β).bind fun r => (evP M b env r.2).bind fun q => (dIx r.1 q.1).map (·, q.2)
  | .slA a, env, β => (pk env a (evP M a env β) β).bind fun r => (dSl r.1 none none).map (·, r.2)
  | .slF a lo, env, β => (pk env a (evP M a env β) β).bind fun r => (evP M lo env r.2).bind fun q => (dInt q.1).bind fun i => (dSl r.1 (some i) none).map (·, q.2)
  | .slT a hi, env, β => (pk env a (evP M a env β) β).bind fun r => (evP M hi env r.2).bind fun q => (dInt q.1).bind fun i => (dSl r.1 none (some i)).map (·, q.2)
  | .slFT a lo hi, env, β => (pk env a (evP M a env β) β).bind fun r => (evP M lo env r.2).bind fun q => (dInt q.1).bind fun i => (evP M hi env q.2).bind fun z => (dInt z.1).bind fun j => (dSl r.1 (some i) (some j)).map (·, z.2)
  | .rev a, env, β => (pk env a (evP M a env β) β).bind fun r => match r.1 with
    | .lst xs => some (.lst xs.reverse, r.2)
    | _ => none
  | .bm _ _ _, _, _ => none
  | .lc elt tg it own, env, β => match tgIn tg own && noOwn env own with
    | true => (evI M it env β).bind fun r => if r.1.length ≤ 1000000 then (mapE (fun x β1 => (bindT tg x (wipeE env (own.map (·.2)))).bind fun e1 => evP M elt e1 β1) r.1 r.2).map fun q => (.lst q.1, q.2) else none
    | false => none
  | .lcIf elt tg it c own, env, β => match tgIn tg own && noOwn env own with
    | true => (evI M it env β).bind fun r => if r.1.length ≤ 1000000 then (mapIf (fun x β1 => (bindT tg x (wipeE env (own.map (·.2)))).bind fun e1 => evB M c e1 β1) (fun x β1 => (bindT tg x (wipeE env (own.map (·.2)))).bind fun e1 => evP M elt e1 β1) r.1 r.2).map fun q => (.lst q.1, q.2) else none
    | false => none
def evA (M : Nat → Mir) : List CE → Env → BS → Option (List D × BS)
  | [], _, β => some ([], β)
  | e :: es, env, β => (evP M e env β).bind fun r => (evA M es env r.2).map fun q => (r.1 :: q.1, q.2)
def evV (M : Nat → Mir) : List CE → Env → BS → Option (List D × BS)
  | [], _, β => some ([], β)
  | e :: es, env, β => (pk env e (evP M e env β) β).bind fun r => (evV M es env r.2).map fun q => (r.1 :: q.1, q.2)
def evB (M : Nat → Mir) : CB → Env → BS → Option (Bool × BS)
  | .not a, env, β => (evB M a env β).map fun r => (!r.1, r.2)
  | .and a b, env, β => (evB M a env β).bind fun r => match r.1 with
    | true => evB M b env r.2
    | false => some (false, r.2)
  | .or a b, env, β => (evB M a env β).bind fun r => match r.1 with
    | true => some (true, r.2)
    | false => evB M b env r.2
  | .cmp op a b, env, β => (pk env a (evP M a env β) β).bind fun r => (pk env b (evP M b env r.2) r.2).bind fun q => (dCmp op r.1 q.1).map (·, q.2)
  | .chain o1 o2 a b c, env, β => (evP M a env β).bind fun r => (evP M b env r.2).bind fun q => (dCmp o1 r.1 q.1).bind fun t => match t with
    | true => (evP M c env q.2).bind fun z => (dCmp o2 q.1 z.1).map (·, z.2)
    | false => some (false, q.2)
  | .tru a, env, β => (pk env a (evP M a env β) β).bind fun r => (dTru r.1).map (·, r.2)
def evI (M : Nat → Mir) : CI → Env → BS → Option (List D × BS)
  | .seq a, env, β => (pk env a (evP M a env β) β).bind fun r => match r.1 with
    | .lst xs => some (xs, r.2)
    | .tup xs => some (xs, r.2)
    | _ => none
  | .rng1 a, env, β => (evP M a env β).bind fun r => match r.1 with
    | .int j => if -(2 ^ 62) ≤ j ∧ j < 2 ^ 62 then some (rangeD 0 j.toNat, r.2) else none
    | _ => none
  | .rng2 a b, env, β => (evP M a env β).bind fun r => (evP M b env r.2).bind fun q => match r.1, q.1 with
    | .int i, .int j => if -(2 ^ 62) ≤ i ∧ i < 2 ^ 62 ∧ -(2 ^ 62) ≤ j ∧ j < 2 ^ 62 then some (rangeD i (j - i).toNat, q.2) else none
    | _, _ => none
  | .enum a, env, β => (pk env a (evP M a env β) β).bind fun r => match r.1 with
    | .lst xs => some (enumD xs, r.2)
    | _ => none
  | .zip a b, env, β => (pk env a (evP M a env β) β).bind fun r => (pk env b (evP M b env r.2) r.2).bind fun q => match r.1, q.1 with
    | .lst xs, .lst ys => some (zipD xs ys, q.2)
    | _, _ => none
end
def evF (M : Nat → Mir) : CE → Env → BS → Option (List D × BS)
  | .lst es, env, β => (evA M es env β).bind fun r => if r.1.length ≤ 1000000 then some r else none
  | .blt .list [e], env, β => (pk env e (evP M e env β) β).bind fun r => match r.1 with
    | .lst xs => some (xs, r.2)
    | .tup xs => some (xs, r.2)
    | _ => none
  | .bin .Add a b, env, β => (pk env a (evP M a env β) β).bind fun r => (pk env b (evP M b env r.2) r.2).bind fun q => match r.1, q.1 with
    | .lst xs, .lst ys => if xs.length + ys.length ≤ 1000000 then some (xs ++ ys, q.2) else none
    | _, _ => none
  | .lc elt tg it own, env, β => match tgIn tg own && noOwn env own with
    | true => (evI M it env β).bind fun r => if r.1.length ≤ 1000000 then mapE (fun x β1 => (bindT tg x (wipeE env (own.map (·.2)))).bind fun e1 => evP M elt e1 β1) r.1 r.2 else none
    | false => none
  | .lcIf elt tg it c own, env, β => match tgIn tg own && noOwn env own with
    | true => (evI M it env β).bind fun r => if r.1.length ≤ 1000000 then mapIf (fun x β1 => (bindT tg x (wipeE env (own.map (·.2)))).bind fun e1 => evB M c e1 β1) (fun x β1 => (bindT tg x (wipeE env (own.map (·.2)))).bind fun e1 => evP M elt e1 β1) r.1 r.2 else none
    | false => none
  | _, _, _ => none
def evO (M : Nat → Mir) (o : Bool) (e : CE) (env : Env) (β : BS) : Option (Sl × BS) := match o with
  | true => (evF M e env β).map fun r => (.own r.1, r.2)
  | false => (evP M e env β).map fun r => (.d r.1, r.2)
inductive Out where
  | nx (env : Env) (β : BS)
  | ret (x : D) (β : BS)
def frz1 (i : Nat) (env : Env) : Env := match env[i]? with
  | some (some (.own xs)) => env.set i (some (.d (.lst xs)))
  | _ => env
def frz : List Nat → Env → Env
  | [], env => env
  | i :: is, env => frz is (frz1 i env)
def forE (t : CT) (f : Env → BS → Option Out) : List D → Env → BS → Option Out
  | [], env, β => some (.nx env β)
  | x :: xs, env, β => (bindT t x env).bind fun e1 => (f e1 β).bind fun o => match o with
    | .nx e2 β2 => forE t f xs e2 β2
    | .ret y β2 => some (.ret y β2)
def noPk (env : Env) : CI → Bool
  | .seq a => (peek env a).isNone
  | .enum a => (peek env a).isNone
  | .zip a b => (peek env a).isNone && (peek env b).isNone
  | _ => true
mutual
def evS (M : Nat → Mir) : CS → Env → BS → Option Out
  | .pass, env, β => some (.nx env β)
  | .fz is, env, β => some (.nx (frz is env) β)
  | .expr e, env, β => match e with
    | .bm .append (.var i) [a] => match env[i]? with
      | some (some (.own xs)) => (evP M a env β).bind fun r => if xs.length < 1000000 then some (.nx (env.set i (some (.own (xs ++ [r.1])))) r.2) else none
      | _ => none
    | .bm .extend (.var i) [a] => match env[i]? with
      | some (some (.own xs)) => (evP M a env β).bind fun r => match r.1 with
        | .lst ys => if xs.length + ys.length ≤ 1000000 then some (.nx (env.set i (some (.own (xs ++ ys)))) r.2) else none
        | _ => none
      | _ => none
    | e => (evP M e env β).map fun r => .nx env r.2
  | .ret e, env, β => (evP M e env β).map fun r => .ret r.1 r.2
  | .retN, _, β => some (.ret .non β)
  | .ifs c a b, env, β => (evB M c env β).bind fun r => match r.1 with
    | true => evSs M a env r.2
    | false => evSs M b env r.2
  | .asg t e, env, β => (evP M e env β).bind fun r => (bindT t r.1 env).map fun e1 => .nx e1 r.2
  | .asgO i e, env, β => (evF M e env β).map fun r => .nx (env.set i (some (.own r.1))) r.2
  | .par2 oi oj i j a b, env, β => (evO M oi a env β).bind fun r => (evO M oj b env r.2).map fun q => .nx ((env.set i (some r.1)).set j (some q.1)) q.2
  | .par3 oi oj ol i j l a b c, env, β => (evO M oi a env β).bind fun r => (evO M oj b env r.2).bind fun q => (evO M ol c env q.2).map fun z => .nx (((env.set i (some r.1)).set j (some q.1)).set l (some z.1)) z.2
  | .aug i op e, env, β => match env[i]? with
    | some (some (.d (.int x))) => (evP M e env β).bind fun r => match op, r.1 with
      | .Add, .int y => some (.nx (env.set i (some (.d (.int (x + y))))) r.2)
      | .Sub, .int y => some (.nx (env.set i (some (.d (.int (x - y))))) r.2)
      | _, _ => none
    | _ => none
  | .setIx o a e, env, β => match o with
    | .var i => match env[i]? with
      | some (some (.own xs)) => (evP M e env β).bind fun r => (evP M a env r.2).bind fun q => match q.1 with
        | .int k => (ixN xs.length k).map fun j => .nx (env.set i (some (.own (xs.set j r.1)))) q.2
        | _ => none
      | _ => none
    | _ => none
  | .augIx _ _ _ _, _, _ => none
  | .forS t it body, env, β => match noPk env it with
    | true => (evI M it env β).bind fun r => forE t (fun e1 β1 => evSs M body e1 β1) r.1 env r.2
    | false => none
def evSs (M : Nat → Mir) : List CS → Env → BS → Option Out
  | [], env, β => some (.nx env β)
  | s :: ss, env, β => (evS M s env β).bind fun o => match o with
    | .nx e1 β1 => evSs M ss e1 β1
    | .ret x β1 => some (.ret x β1)
end
def evFd (M : Nat → Mir) (d : Fd) : Mir := fun ds β => if ds.length = d.ps.length ∧ d.ps.length ≤ d.N.length then
  (evSs M d.body (ds.map (fun x => some (.d x)) ++ List.replicate (d.N.length - ds.length) none) β).map fun o => match o with
    | .nx _ β1 => (.non, β1)
    | .ret x β1 => (x, β1)
  else none
end LT

namespace LT
open PySem PySem.Spec PyProof.Rows L2
abbrev Sub (G H : Hp) : Prop := ∀ a o, G a = some o → H a = some o
theorem Sub.refl (G : Hp) : Sub G G := fun _ _ h => h
theorem Sub.trans {G H I : Hp} (a : Sub G H) (b : Sub H I) : Sub G I := fun x o h => b x o (a x o h)
mutual
inductive Den (K : PySem.W.Frag) (B : Addr) (G : Hp) : V → D → Prop
  | non : Den K B G .non .non
  | bl (b : Bool) : Den K B G (.bl b) (.bl b)
  | int (i : Int) : Den K B G (.int i) (.int i)
  | str (s : Str) : Den K B G (.str s) (.str s)
  | tup {a : Addr} {xs : List V} {ds : List D} : SqT K G a xs → DenAll K B G xs ds → Den K B G (.ref a) (.tup ds)
  | lst {a : Addr} {xs : List V} {ds : List D} : G a = some (.lst xs) → DenAll K B G xs ds → Den K B G (.ref a) (.lst ds)
  | bag : Den K B G (.ref B) .bag
inductive DenAll (K : PySem.W.Frag) (B : Addr) (G : Hp) : List V → List D → Prop
  | nil : DenAll K B G [] []
  | cons {v : V} {d : D} {vs : List V} {ds : List D} : Den K B G v d → DenAll K B G vs ds → DenAll K B G (v :: vs) (d :: ds)
end
theorem sub_rd {G H : Hp} {a : Addr} {u : HO} (e : Sub G H) (h : Rd G a u) : Rd H a u := by
  rcases h with h | ⟨o, h⟩
  · exact Or.inl (e a _ h)
  · exact Or.inr ⟨o, e a _ h⟩
theorem sub_t {K : PySem.W.Frag} {G H : Hp} {a : Addr} {xs : List V} (e : Sub G H) (h : SqT K G a xs) : SqT K H a xs := by
  rcases h with h | h
  · exact Or.inl (sub_rd e h)
  · exact Or.inr h
mutual
theorem Den.mono {K : PySem.W.Frag} {B : Addr} {G H : Hp} (e : Sub G H) : ∀ {v : V} {d : D}, Den K B G v d → Den K B H v d
  | _, _, .non => .non
  | _, _, .bl b => .bl b
  | _, _, .int i => .int i
  | _, _, .str s => .str s
  | _, _, .tup h t => .tup (sub_t e h) (DenAll.mono e t)
  | _, _, .lst h t => .lst (e _ _ h) (DenAll.mono e t)
  | _, _, .bag => .bag
theorem DenAll.mono {K : PySem.W.Frag} {B : Addr} {G H : Hp} (e : Sub G H) : ∀ {vs : List V} {ds : List D}, DenAll K B G vs ds → DenAll K B H vs ds
  | _, _, .nil => .nil
  | _, _, .cons h t => .cons (Den.mono e h) (DenAll.mono e t)
end
section
variable {K : PySem.W.Frag} {B : Addr} {G H : Hp}
theorem DenAll.length {vs : List V} {ds : List D} (h : DenAll K B G vs ds) : vs.length = ds.length := by
  induction vs generalizing ds with
  | nil => cases h; rfl
  | cons v vs ih =>
    cases h with
    | cons _ t => rw [List.length_cons, List.length_cons, ih t]
theorem DenAll.app {vs ws : List V} {ds es : List D} (h : DenAll K B G vs ds) (h2 : DenAll K B G ws es) : DenAll K B G (vs ++ ws) (ds ++ es) := by
  induction vs generalizing ds with
  | nil => cases h; exact h2
  | cons v vs ih =>
    cases h with
    | cons a t => exact .cons a (ih t)
theorem DenAll.get {vs : List V} {ds : List D} (h : DenAll K B G vs ds) {j : Nat} {d : D} (e : ds[j]? = some d) : ∃ v, vs[j]? = some v ∧ Den K B G v d := by
  induction vs generalizing ds j with
  | nil => cases h; simp at e
  | cons v vs ih =>
    cases h with
    | cons a t =>
      cases j with
      | zero =>
        simp at e
        subst e
        exact ⟨v, rfl, a⟩
      | succ j => exact ih t (by simpa using e)
theorem DenAll.get' {vs : List V} {ds : List D} (h : DenAll K B G vs ds) {j : Nat} {v : V} (e : vs[j]? = some v) : ∃ d, ds[j]? = some d ∧ Den K B G v d := by
  induction vs generalizing ds j with
  | nil => simp at e
  | cons w vs ih =>
    cases h with
    | cons a t =>
      cases j with
      | zero =>
        simp at e
        subst e
        exact ⟨_, rfl, a⟩
      | succ j => exact ih t (by simpa using e)
theorem DenAll.set {vs : List V} {ds : List D} (h : DenAll K B G vs ds) {j : Nat} {v : V} {d : D} (hv : Den K B G v d) : DenAll K B G (vs.set j v) (ds.set j d) := by
  induction vs generalizing ds j with
  | nil => cases h; exact .nil
  | cons w vs ih =>
    cases h with
    | cons a t =>
      cases j with
      | zero => exact .cons hv t
      | succ j => exact .cons a (ih t)
theorem DenAll.drop {vs : List V} {ds : List D} (h : DenAll K B G vs ds) (n : Nat) : DenAll K B G (vs.drop n) (ds.drop n) := by
  induction vs generalizing ds n with
  | nil => cases h; simp; exact .nil
  | cons w vs ih =>
    cases h with
    | cons a t =>
      cases n with
      | zero => exact .cons a t
      | succ n => exact ih t n
theorem DenAll.take {vs : List V} {ds : List D} (h : DenAll K B G vs ds) (n : Nat) : DenAll K B G (vs.take n) (ds.take n) := by
  induction vs generalizing ds n with
  | nil => cases h; simp; exact .nil
  | cons w vs ih =>
    cases h with
    | cons a t =>
      cases n with
      | zero => exact .nil
      | succ n => exact .cons a (ih t n)
theorem DenAll.rev {vs : List V} {ds : List D} (h : DenAll K B G vs ds) : DenAll K B G vs.reverse ds.reverse := by
  induction vs generalizing ds with
  | nil => cases h; exact .nil
  | cons w vs ih =>
    cases h with
    | cons a t =>
      rw [List.reverse_cons, List.reverse_cons]
      exact (ih t).app (.cons a .nil)
theorem DenAll.rep {vs : List V} {ds : List D} (h : DenAll K B G vs ds) (n : Nat) : DenAll K B G (List.replicate n vs).flatten (List.replicate n ds).flatten := by
  induction n with
  | zero => exact .nil
  | succ n ih =>
    rw [List.replicate_succ, List.replicate_succ, List.flatten_cons, List.flatten_cons]
    exact h.app ih
theorem DenAll.ints {vs : List V} {ds : List D} (h : DenAll K B G vs ds) {ns : List Int} (e : intsD ds = some ns) : vs = ns.map V.int := by
  induction vs generalizing ds ns with
  | nil =>
    cases h
    cases e
    rfl
  | cons v vs ih =>
    cases h with
    | @cons _ d _ ds a t =>
      cases d <;> first | (cases e; done) | skip
      rename_i i
      cases a
      have e2 : (intsD ds).map (i :: ·) = some ns := e
      obtain ⟨ms, h1, h2⟩ := Option.map_eq_some_iff.mp e2
      subst h2
      rw [List.map_cons, ih t h1]
theorem DenAll.bools {vs : List V} {ds : List D} (h : DenAll K B G vs ds) {ns : List Bool} (e : boolsD ds = some ns) : vs = ns.map V.bl := by
  induction vs generalizing ds ns with
  | nil =>
    cases h
    cases e
    rfl
  | cons v vs ih =>
    cases h with
    | @cons _ d _ ds a t =>
      cases d <;> first | (cases e; done) | skip
      rename_i i
      cases a
      have e2 : (boolsD ds).map (i :: ·) = some ns := e
      obtain ⟨ms, h1, h2⟩ := Option.map_eq_some_iff.mp e2
      subst h2
      rw [List.map_cons, ih t h1]
theorem denInts (ns : List Int) : DenAll K B G (ns.map V.int) (ns.map D.int) := by
  induction ns with
  | nil => exact .nil
  | cons n ns ih => exact .cons (.int n) ih
end
mutual
theorem D.eq_py : ∀ (d e : D) (n m : Nat), d.ok n = true → e.ok m = true → D.eq d e = PyData.eqv d.py e.py
  | .non, e, n, m, h1, h2 => by cases e <;> first | (simp [D.eq, D.py, PyData.eqv]; done) | (simp [D.ok] at h2)
  | .bl b, e, n, m, h1, h2 => by cases e <;> first | (simp [D.eq, D.py, PyData.eqv]; done) | (simp [D.ok] at h2)
  | .int b, e, n, m, h1, h2 => by cases e <;> first | (simp [D.eq, D.py, PyData.eqv]; done) | (simp [D.ok] at h2)
  | .str b, e, n, m, h1, h2 => by cases e <;> first | (simp [D.eq, D.py, PyData.eqv]; done) | (simp [D.ok] at h2)
  | .tup xs, e, n, m, h1, h2 => by
    cases e with
    | tup ys =>
      cases n with
      | zero => simp [D.ok] at h1
      | succ n =>
        cases m with
        | zero => simp [D.ok] at h2
        | succ m =>
          simp only [D.eq, D.py, PyData.eqv]
          exact D.eqs_py xs ys n m (by simpa [D.ok] using h1) (by simpa [D.ok] using h2)
    | _ => first | (simp [D.eq, D.py, PyData.eqv]; done) | (simp [D.ok] at h2)
  | .lst xs, e, n, m, h1, h2 => by
    cases e with
    | lst ys =>
      cases n with
      | zero => simp [D.ok] at h1
      | succ n =>
        cases m with
        | zero => simp [D.ok] at h2
        | succ m =>
          simp only [D.eq, D.py, PyData.eqv]
          exact D.eqs_py xs ys n m (by simpa [D.ok] using h1) (by simpa [D.ok] using h2)
    | _ => first | (simp [D.eq, D.py, PyData.eqv]; done) | (simp [D.ok] at h2)
  | .dct _, e, n, m, h1, h2 => by simp [D.ok] at h1
  | .obj _ _, e, n, m, h1, h2 => by simp [D.ok] at h1
  | .bag, e, n, m, h1, h2 => by simp [D.ok] at h1
theorem D.eqs_py : ∀ (ds es : List D) (n m : Nat), D.oks ds n = true → D.oks es m = true → D.eqs ds es = PyData.eqvAll (D.pys ds) (D.pys es)
  | [], es, n, m, h1, h2 => by cases es <;> simp [D.eqs, D.pys, PyData.eqvAll]
  | d :: ds, es, n, m, h1, h2 => by
    cases es with
    | nil => simp [D.eqs, D.pys, PyData.eqvAll]
    | cons e es =>
      obtain ⟨a1, a2⟩ := and2 (show (D.ok d n && D.oks ds n) = true by simpa [D.oks] using h1)
      obtain ⟨b1, b2⟩ := and2 (show (D.ok e m && D.oks es m) = true by simpa [D.oks] using h2)
      simp only [D.eqs, D.pys, PyData.eqvAll]
      rw [D.eq_py d e n m a1 b1, D.eqs_py ds es n m a2 b2]
end
mutual
theorem D.ok_shape : ∀ (d : D) (n : Nat), d.ok n = true → d.py.canLay0 = true ∧ d.py.depth ≤ n
  | .non, n, h => ⟨by simp [D.py, PyData.canLay0], by simp [D.py, PyData.depth]⟩
  | .bl b, n, h => ⟨by simp [D.py, PyData.canLay0], by simp [D.py, PyData.depth]⟩
  | .int b, n, h => ⟨by simp [D.py, PyData.canLay0], by simp [D.py, PyData.depth]⟩
  | .str b, n, h => ⟨by simpa [D.py, PyData.canLay0, D.ok] using h, by simp [D.py, PyData.depth]⟩
  | .tup xs, n, h => by
    cases n with
    | zero => simp [D.ok] at h
    | succ n =>
      obtain ⟨h1, h2⟩ := D.oks_shape xs n (by simpa [D.ok] using h)
      exact ⟨by simpa [D.py, PyData.canLay0] using h1, by simp only [D.py, PyData.depth]; omega⟩
  | .lst xs, n, h => by
    cases n with
    | zero => simp [D.ok] at h
    | succ n =>
      obtain ⟨h1, h2⟩ := D.oks_shape xs n (by simpa [D.ok] using h)
      exact ⟨by simpa [D.py, PyData.canLay0] using h1, by simp only [D.py, PyData.depth]; omega⟩
  | .dct _, n, h => by simp [D.ok] at h
  | .obj _ _, n, h => by simp [D.ok] at h
  | .bag, n, h => by simp [D.ok] at h
theorem D.oks_shape : ∀ (ds : List D) (n : Nat), D.oks ds n = true → PyData.canLayAll0 (D.pys ds) = true ∧ PyData.depthAll (D.pys ds) ≤ n
  | [], n, h => ⟨by simp [D.pys, PyData.canLayAll0], by simp [D.pys, PyData.depthAll]⟩
  | d :: ds, n, h => by
    obtain ⟨a1, a2⟩ := and2 (show (D.ok d n && D.oks ds n) = true by simpa [D.oks] using h)
    obtain ⟨h1, h2⟩ := D.ok_shape d n a1
    obtain ⟨h3, h4⟩ := D.oks_shape ds n a2
    refine ⟨by simp [D.pys, PyData.canLayAll0, h1, h3], ?_⟩
    simp only [D.pys, PyData.depthAll]
    omega
end
theorem D.ok_shaped {d : D} (h : d.ok 60 = true) : SeqAt.shaped d.py = true := by
  obtain ⟨h1, h2⟩ := D.ok_shape d 60 h
  unfold SeqAt.shaped
  rw [h1, decide_eq_true (by omega)]
  rfl
mutual
theorem Den.dp {K : PySem.W.Frag} {B : Addr} {G : Hp} : ∀ (d : D) (v : V) (n : Nat), d.ok n = true → Den K B G v d → Dp K G v d.py
  | .non, _, _, _, .non => .non
  | .bl b, _, _, _, .bl _ => .bl b
  | .int i, _, _, _, .int _ => .int i
  | .str s, _, _, _, .str _ => .str s
  | .tup xs, _, n, h, .tup hs t => by
    cases n with
    | zero => simp [D.ok] at h
    | succ n => exact .tup hs (DenAll.dp xs _ n (by simpa [D.ok] using h) t)
  | .lst xs, _, n, h, .lst hs t => by
    cases n with
    | zero => simp [D.ok] at h
    | succ n => exact .lst (SqL.of hs) (DenAll.dp xs _ n (by simpa [D.ok] using h) t)
  | .bag, _, n, h, .bag => by simp [D.ok] at h
theorem DenAll.dp {K : PySem.W.Frag} {B : Addr} {G : Hp} : ∀ (ds : List D) (vs : List V) (n : Nat), D.oks ds n = true → DenAll K B G vs ds → DpAll K G vs (D.pys ds)
  | [], _, _, _, .nil => .nil
  | d :: ds, _, n, h, .cons a t => by
    obtain ⟨a1, a2⟩ := and2 (show (D.ok d n && D.oks ds n) = true by simpa [D.oks] using h)
    exact .cons (Den.dp d _ n a1 a) (DenAll.dp ds _ n a2 t)
end
end LT

namespace LT
open PySem PySem.Spec PyProof.Rows L2
structure BagAt (B : Addr) (G H : Hp) (β : BS) : Prop where
  at_ : ∃ C, H B = some (.lst [.int β.c, .int β.s, .int β.i, .ref C]) ∧ G C = some (.lst (β.xs.map V.int))
  out : G B = none
  i0 : 0 ≤ β.i
structure Ext (B : Addr) (G H G' H' : Hp) : Prop where
  gg : Sub G G'
  gh : Sub G' H'
  hh : ∀ a o, H a = some o → a ≠ B → H' a = some o
  nw : ∀ a o, H a = some o → G a = none → G' a = none
theorem Ext.refl {B : Addr} {G H : Hp} (s : Sub G H) : Ext B G H G H := ⟨Sub.refl G, s, fun _ _ h _ => h, fun _ _ _ h => h⟩
theorem Ext.trans {B : Addr} {G H G1 H1 G2 H2 : Hp} (a : Ext B G H G1 H1) (b : Ext B G1 H1 G2 H2) (hb : G2 B = none) : Ext B G H G2 H2 := by
  refine ⟨a.gg.trans b.gg, b.gh, fun x o h hx => b.hh x o (a.hh x o h hx) hx, fun x o h h2 => ?_⟩
  by_cases e : x = B
  · rw [e]
    exact hb
  · exact b.nw x o (a.hh x o h e) (a.nw x o h h2)
theorem Ext.new {B : Addr} {G H : Hp} {p : Addr} {o : HO} (s : Sub G H) (hp : H p = none) : Ext B G H (upd G p o) (upd H p o) := by
  have hg : G p = none := by
    cases e : G p with
    | none => rfl
    | some z =>
      rw [s p z e] at hp
      cases hp
  refine ⟨fun a z h => ?_, fun a z h => ?_, fun a z h _ => ?_, fun a z h h2 => ?_⟩
  · rw [upd_ne (ne_of_none h hg)]
    exact h
  · by_cases e : a = p
    · subst e
      rw [upd_same] at h ⊢
      exact h
    · rw [upd_ne e] at h ⊢
      exact s a z h
  · rw [upd_ne (ne_of_none h hp)]
    exact h
  · rw [upd_ne (ne_of_none h hp)]
    exact h2
theorem Ext.newU {B : Addr} {G H : Hp} {p : Addr} {o : HO} (s : Sub G H) (hp : H p = none) : Ext B G H G (upd H p o) := by
  refine ⟨Sub.refl G, fun a z h => ?_, fun a z h _ => ?_, fun a z h h2 => h2⟩
  · rw [upd_ne (ne_of_none (s a z h) hp)]
    exact s a z h
  · rw [upd_ne (ne_of_none h hp)]
    exact h
theorem BagAt.new {B : Addr} {G H : Hp} {β : BS} {p : Addr} {o : HO} (b : BagAt B G H β) (s : Sub G H) (hp : H p = none) : BagAt B (upd G p o) (upd H p o) β := by
  obtain ⟨⟨C, h1, h2⟩, h3, h4⟩ := b
  refine ⟨⟨C, ?_, ?_⟩, ?_, h4⟩
  · rw [upd_ne (ne_of_none h1 hp)]
    exact h1
  · rw [upd_ne (ne_of_none (s _ _ h2) hp)]
    exact h2
  · rw [upd_ne (ne_of_none h1 hp)]
    exact h3
theorem BagAt.newU {B : Addr} {G H : Hp} {β : BS} {p : Addr} {o : HO} (b : BagAt B G H β) (hp : H p = none) : BagAt B G (upd H p o) β := by
  obtain ⟨⟨C, h1, h2⟩, h3, h4⟩ := b
  refine ⟨⟨C, ?_, h2⟩, h3, h4⟩
  rw [upd_ne (ne_of_none h1 hp)]
  exact h1
structure Rel (K : PySem.W.Frag) (B : Addr) (G0 H0 : Hp) (σ : L2.St) (env : Env) (β : BS) (G H : Hp) : Prop where
  len : σ.length = env.length
  sub : Sub G H
  g0 : Sub G0 G
  h0 : ∀ a o, H0 a = some o → a ≠ B → H a = some o
  n0 : ∀ a o, H0 a = some o → G0 a = none → G a = none
  b0 : ∃ o, H0 B = some o
  bag : BagAt B G H β
  d : ∀ (i : Nat) (x : D), env[i]? = some (some (.d x)) → ∃ v, σ[i]? = some (some v) ∧ Den K B G v x
  o : ∀ (i : Nat) (xs : List D), env[i]? = some (some (.own xs)) → ∃ p vs, σ[i]? = some (some (.ref p)) ∧ H p = some (.lst vs) ∧ G p = none ∧ H0 p = none ∧ DenAll K B G vs xs
  inj : ∀ (i j : Nat) (xs ys : List D) (p : Addr), env[i]? = some (some (.own xs)) → env[j]? = some (some (.own ys)) → σ[i]? = some (some (.ref p)) → σ[j]? = some (some (.ref p)) → i = j
section
variable {K : PySem.W.Frag} {B : Addr} {G0 H0 G H G' H' : Hp} {σ : L2.St} {env : Env} {β β' : BS}
theorem Rel.bb (R : Rel K B G0 H0 σ env β G H) : ∃ o, H B = some o := let ⟨C, h, _⟩ := R.bag.at_; ⟨_, h⟩
theorem Rel.ext (R : Rel K B G0 H0 σ env β G H) (e : Ext B G H G' H') (b : BagAt B G' H' β') : Rel K B G0 H0 σ env β' G' H' where
  len := R.len
  sub := e.gh
  g0 := R.g0.trans e.gg
  h0 := fun a o h hb => e.hh a o (R.h0 a o h hb) hb
  n0 := fun a o h h2 => by
    by_cases q : a = B
    · subst q
      exact b.out
    · exact e.nw a o (R.h0 a o h q) (R.n0 a o h h2)
  b0 := R.b0
  bag := b
  d := fun i x h => by
    obtain ⟨v, h1, h2⟩ := R.d i x h
    exact ⟨v, h1, h2.mono e.gg⟩
  o := fun i xs h => by
    obtain ⟨p, vs, h1, h2, h3, h4, h5⟩ := R.o i xs h
    have pb : p ≠ B := fun q => by
      obtain ⟨o, ho⟩ := R.b0
      rw [q, ho] at h4
      cases h4
    exact ⟨p, vs, h1, e.hh p _ h2 pb, e.nw p _ h2 h3, h4, h5.mono e.gg⟩
  inj := R.inj
theorem Rel.new (R : Rel K B G0 H0 σ env β G H) {p : Addr} {o : HO} (hp : H p = none) : Rel K B G0 H0 σ env β (upd G p o) (upd H p o) := R.ext (Ext.new R.sub hp) (R.bag.new R.sub hp)
theorem Rel.newU (R : Rel K B G0 H0 σ env β G H) {p : Addr} {o : HO} (hp : H p = none) : Rel K B G0 H0 σ env β G (upd H p o) := R.ext (Ext.newU R.sub hp) (R.bag.newU hp)
theorem Rel.h0none (R : Rel K B G0 H0 σ env β G H) {p : Addr} (hp : H p = none) : H0 p = none := by
  cases e : H0 p with
  | none => rfl
  | some o =>
    by_cases q : p = B
    · obtain ⟨o', h⟩ := R.bb
      rw [← q, hp] at h
      cases h
    · rw [R.h0 p o e q] at hp
      cases hp
theorem Rel.freeze (R : Rel K B G0 H0 σ env β G H) {p : Addr} {o : HO} (hp : H p = some o) (h0 : H0 p = none) (hno : ∀ (i : Nat) (xs : List D), env[i]? = some (some (.own xs)) → σ[i]? ≠ some (some (.ref p))) (hg : G p = none) : Rel K B G0 H0 σ env β (upd G p o) H := by
  have pb : p ≠ B := fun q => by
    obtain ⟨o, ho⟩ := R.b0
    rw [q, ho] at h0
    cases h0
  have gg : Sub G (upd G p o) := fun a z h => by
    rw [upd_ne (ne_of_none h hg)]
    exact h
  refine { len := R.len, sub := fun a z h => ?_, g0 := R.g0.trans gg, h0 := R.h0, n0 := fun a z h h2 => ?_, b0 := R.b0, bag := ?_, d := fun i x h => ?_, o := fun i xs h => ?_, inj := R.inj }
  · by_cases e : a = p
    · subst e
      rw [upd_same] at h
      rw [← h]
      exact hp
    · rw [upd_ne e] at h
      exact R.sub a z h
  · rw [upd_ne (ne_of_none h h0)]
    exact R.n0 a z h h2
  · obtain ⟨⟨C, h1, h2⟩, h3, h4⟩ := R.bag
    refine ⟨⟨C, h1, gg _ _ h2⟩, ?_, h4⟩
    rw [upd_ne pb.symm]
    exact h3
  · obtain ⟨v, h1, h2⟩ := R.d i x h
    exact ⟨v, h1, h2.mono gg⟩
  · obtain ⟨q, vs, h1, h2, h3, h4, h5⟩ := R.o i xs h
    have qp : q ≠ p := fun e => hno i xs h (by rw [h1, e])
    exact ⟨q, vs, h1, h2, by rw [upd_ne qp]; exact h3, h4, h5.mono gg⟩
def DenW (K : PySem.W.Frag) (B : Addr) (σ : L2.St) (env : Env) (G : Hp) (v : V) (x : D) : Prop := Den K B G v x ∨ ∃ (i : Nat) (xs : List D), env[i]? = some (some (.own xs)) ∧ σ[i]? = some (some v) ∧ x = .lst xs
theorem DenW.mono {v : V} {x : D} (h : DenW K B σ env G v x) (e : Sub G G') : DenW K B σ env G' v x := by
  rcases h with h | h
  · exact .inl (h.mono e)
  · exact .inr h
theorem DenW.lst (R : Rel K B G0 H0 σ env β G H) {v : V} {xs : List D} (h : DenW K B σ env G v (.lst xs)) : ∃ p vs, v = .ref p ∧ H p = some (.lst vs) ∧ DenAll K B G vs xs := by
  rcases h with h | ⟨i, ys, h1, h2, h3⟩
  · cases h with
    | lst h1 h2 => exact ⟨_, _, rfl, R.sub _ _ h1, h2⟩
  · cases h3
    obtain ⟨p, vs, g1, g2, g3, g4, g5⟩ := R.o i _ h1
    rw [h2] at g1
    cases g1
    exact ⟨p, vs, rfl, g2, g5⟩
theorem DenW.den {v : V} {x : D} (h : DenW K B σ env G v x) (hn : ∀ xs, x ≠ .lst xs) : Den K B G v x := by
  rcases h with h | ⟨i, ys, h1, h2, h3⟩
  · exact h
  · exact absurd h3 (hn _)
theorem DenW.dp (R : Rel K B G0 H0 σ env β G H) {v : V} {x : D} {n : Nat} (hx : x.ok n = true) (h : DenW K B σ env G v x) : Dp K H v x.py := by
  rcases h with h | ⟨i, ys, h1, h2, h3⟩
  · exact (h.mono R.sub).dp x v n hx
  · subst h3
    obtain ⟨p, vs, e1, e2, e3⟩ := DenW.lst R (.inr ⟨i, ys, h1, h2, rfl⟩)
    subst e1
    cases n with
    | zero => simp [D.ok] at hx
    | succ n => exact .lst (SqL.of e2) ((e3.mono R.sub).dp ys _ n (by simpa [D.ok] using hx))
theorem q_lst (R : Rel K B G0 H0 σ env β G H) {Q : VK} {xs : List V} {ds : List D} (hx : DenAll K B G xs ds) (q : ∀ v G' H', Ext B G H G' H' → BagAt B G' H' β → Den K B G' v (.lst ds) → Q v H') : ∀ p, H p = none → Q (.ref p) (upd H p (.lst xs)) := fun p hp => by
  have e := Ext.new (B := B) (o := .lst xs) R.sub hp
  exact q _ (upd G p (.lst xs)) _ e (R.bag.new R.sub hp) (.lst upd_same (hx.mono e.gg))
theorem q_tup (R : Rel K B G0 H0 σ env β G H) {Q : VK} {xs : List V} {ds : List D} (hx : DenAll K B G xs ds) (q : ∀ v G' H', Ext B G H G' H' → BagAt B G' H' β → Den K B G' v (.tup ds) → Q v H') : ∀ p, H p = none → Q (.ref p) (upd H p (.tup xs)) := fun p hp => by
  have e := Ext.new (B := B) (o := .tup xs) R.sub hp
  exact q _ (upd G p (.tup xs)) _ e (R.bag.new R.sub hp) (.tup (SqT.of upd_same) (hx.mono e.gg))
theorem lineM {n : Nat} (h : n ≤ 1000000) : n ≤ sizeLine := Nat.le_trans h (by decide)
theorem lineL {n : Nat} (h : n < 1000000) : n < sizeLine := Nat.lt_of_lt_of_le h (by decide)
theorem bigLog {i : Int} (h : i.natAbs < big) : i.natAbs < 2 ^ 400 := Nat.lt_trans h (by unfold big; decide +kernel)
theorem bin_snd (R : Rel K B G0 H0 σ env β G H) {op : Operator} {x y : V} {dx dy dz : D} {Q : VK} (h : dBin op dx dy = some dz) (hx : DenW K B σ env G x dx) (hy : DenW K B σ env G y dy)
    (q : ∀ v G' H', Ext B G H G' H' → BagAt B G' H' β → Den K B G' v dz → Q v H') : rBin K op x y H Q := by
  unfold dBin at h
  split at h
  · cases h
    cases hx.den (by intro _ z; cases z)
    cases hy.den (by intro _ z; cases z)
    exact .inl ⟨_, _, rfl, rfl, q _ G H (Ext.refl R.sub) R.bag (.int _)⟩
  · split at h
    · cases h
      obtain ⟨p, vs, rfl, h1, h2⟩ := hx.lst R
      obtain ⟨p', vs', rfl, h1', h2'⟩ := hy.lst R
      rename_i hl
      refine .inr (.inl ⟨p, p', vs, vs', rfl, rfl, h1, h1', lineM (by rw [h2.length, h2'.length]; exact hl), q_lst R (h2.app h2') q⟩)
    · cases h
  · split at h
    · cases h
      rename_i hl
      cases hx.den (by intro _ z; cases z) with
      | tup s1 t1 =>
        cases hy.den (by intro _ z; cases z) with
        | tup s2 t2 =>
          refine .inr (.inr (.inl ⟨_, _, _, _, rfl, rfl, sub_t R.sub s1, sub_t R.sub s2, lineM (by rw [t1.length, t2.length]; exact hl), fun e => ?_, fun _ e => ?_, fun _ _ => q_tup R (t1.app t2) q⟩))
          · subst e
            cases t1
            exact q _ G H (Ext.refl R.sub) R.bag (.tup s2 t2)
          · subst e
            cases t2
            rw [List.append_nil] at q
            exact q _ G H (Ext.refl R.sub) R.bag (.tup s1 t1)
    · cases h
  · split at h
    · cases h
      rename_i hl
      cases hx.den (by intro _ z; cases z)
      cases hy.den (by intro _ z; cases z)
      exact .inr (.inr (.inr ⟨_, _, rfl, rfl, lineM hl, q _ G H (Ext.refl R.sub) R.bag (.str _)⟩))
    · cases h
  · cases h
    cases hx.den (by intro _ z; cases z)
    cases hy.den (by intro _ z; cases z)
    exact ⟨_, _, rfl, rfl, q _ G H (Ext.refl R.sub) R.bag (.int _)⟩
  · split at h
    · cases h
      rename_i hl
      cases hx.den (by intro _ z; cases z)
      cases hy.den (by intro _ z; cases z)
      rcases hl with hl | hl
      · exact .inl ⟨_, _, rfl, rfl, wide_mul (bigLog hl.1) (bigLog hl.2) (by decide) (by decide) (by decide), q _ G H (Ext.refl R.sub) R.bag (.int _)⟩
      · refine .inr (.inl ⟨_, _, rfl, rfl, ?_, q _ G H (Ext.refl R.sub) R.bag (.int _)⟩)
        rcases hl with hl | hl
        · exact .inl ⟨by omega, by omega⟩
        · exact .inr ⟨by omega, by omega⟩
    · cases h
  · split at h
    · cases h
      rename_i hl
      obtain ⟨p, vs, rfl, h1, h2⟩ := hx.lst R
      cases hy.den (by intro _ z; cases z)
      refine .inr (.inr ⟨p, _, vs, rfl, rfl, h1, by omega, by omega, lineM (by rw [h2.length]; exact hl.2.2), q_lst R (h2.rep _) q⟩)
    · cases h
  · split at h
    · cases h
      rename_i hl
      cases hx.den (by intro _ z; cases z)
      cases hy.den (by intro _ z; cases z)
      exact ⟨_, _, rfl, rfl, wide_div hl.1 (bigLog hl.2) (by decide) (by decide), q _ G H (Ext.refl R.sub) R.bag (.int _)⟩
    · cases h
  · split at h
    · cases h
      rename_i hl
      cases hx.den (by intro _ z; cases z)
      cases hy.den (by intro _ z; cases z)
      exact ⟨_, _, rfl, rfl, hl, q _ G H (Ext.refl R.sub) R.bag (.int _)⟩
    · cases h
  · split at h
    · cases h
      rename_i hl
      cases hx.den (by intro _ z; cases z)
      cases hy.den (by intro _ z; cases z)
      exact ⟨_, _, rfl, rfl, ⟨hl.1, by omega, hl.2.2⟩, q _ G H (Ext.refl R.sub) R.bag (.int _)⟩
    · cases h
  · cases h
end
end LT

namespace LT
open PySem PySem.Spec PyProof.Rows L2
theorem any_py (x : D) {n : Nat} (hx : x.ok n = true) : ∀ (ys : List D) (m : Nat), D.oks ys m = true → (D.pys ys).any (fun z => PyData.eqv z x.py) = ys.any fun y => D.eq y x
  | [], _, _ => rfl
  | y :: ys, m, h => by
    obtain ⟨a1, a2⟩ := and2 (show (D.ok y m && D.oks ys m) = true by simpa [D.oks] using h)
    show (PyData.eqv y.py x.py || (D.pys ys).any (fun z => PyData.eqv z x.py)) = (D.eq y x || ys.any fun y => D.eq y x)
    rw [any_py x hx ys m a2, D.eq_py y x m n a1 hx]
section
variable {K : PySem.W.Frag} {B : Addr} {G0 H0 G H G' H' : Hp} {σ : L2.St} {env : Env} {β β' : BS}
theorem isNon_den {x : V} {dx : D} (h : DenW K B σ env G x dx) (R : Rel K B G0 H0 σ env β G H) : isNon dx = decide (x = .non) := by
  cases dx with
  | lst xs =>
    obtain ⟨p, vs, rfl, _⟩ := h.lst R
    rfl
  | _ => cases h.den (by intro _ z; cases z) <;> rfl
theorem cmp_snd (R : Rel K B G0 H0 σ env β G H) {op : CmpOp} {x y : V} {dx dy : D} {b : Bool} {Q : VK} (h : dCmp op dx dy = some b) (hx : DenW K B σ env G x dx) (hy : DenW K B σ env G y dy) (q : Q (.bl b) H) : rCmp K op x y H Q := by
  unfold dCmp at h
  split at h
  · split at h
    · cases h
      rename_i hk
      obtain ⟨k1, k2⟩ := and2 hk
      refine .inr ⟨dx.py, dy.py, hx.dp R k1, hy.dp R k2, D.ok_shaped k1, D.ok_shaped k2, ?_⟩
      rw [← D.eq_py _ _ 60 60 k1 k2]
      exact q
    · cases h
  · split at h
    · cases h
      rename_i hk
      obtain ⟨k1, k2⟩ := and2 hk
      refine .inr ⟨dx.py, dy.py, hx.dp R k1, hy.dp R k2, D.ok_shaped k1, D.ok_shaped k2, ?_⟩
      rw [← D.eq_py _ _ 60 60 k1 k2]
      exact q
    · cases h
  · cases h
    cases hx.den (by intro _ z; cases z)
    cases hy.den (by intro _ z; cases z)
    exact .inl ⟨_, _, rfl, rfl, q⟩
  · cases h
    cases hx.den (by intro _ z; cases z)
    cases hy.den (by intro _ z; cases z)
    exact ⟨_, _, rfl, rfl, q⟩
  · cases h
    cases hx.den (by intro _ z; cases z)
    cases hy.den (by intro _ z; cases z)
    exact ⟨_, _, rfl, rfl, q⟩
  · cases h
    cases hx.den (by intro _ z; cases z)
    cases hy.den (by intro _ z; cases z)
    exact ⟨_, _, rfl, rfl, q⟩
  · cases h
    cases hy.den (by intro _ z; cases z)
    rw [isNon_den hx R] at q
    exact ⟨rfl, q⟩
  · cases h
    cases hy.den (by intro _ z; cases z)
    rw [isNon_den hx R] at q
    exact ⟨rfl, q⟩
  · split at h
    · cases h
      rename_i ys hk
      obtain ⟨k1, k2⟩ := and2 hk
      refine .inr ⟨dx.py, D.pys ys, hx.dp R k1, hy.dp R k2, D.ok_shaped k1, D.ok_shaped k2, ?_⟩
      rw [any_py dx k1 ys 59 (by simpa [D.ok] using k2)]
      exact q
    · cases h
  · split at h
    · cases h
      rename_i ys hk
      obtain ⟨k1, k2⟩ := and2 hk
      refine .inr ⟨dx.py, D.pys ys, hx.dp R k1, hy.dp R k2, D.ok_shaped k1, D.ok_shaped k2, ?_⟩
      rw [any_py dx k1 ys 59 (by simpa [D.ok] using k2)]
      exact q
    · cases h
  · cases h
theorem isE {vs : List V} {ds : List D} (h : DenAll K B G vs ds) : ds.isEmpty = vs.isEmpty := by cases h <;> rfl
theorem tru_snd (R : Rel K B G0 H0 σ env β G H) {x : V} {dx : D} {b : Bool} (h : dTru dx = some b) (hx : DenW K B σ env G x dx) : TruV K x H b := by
  unfold dTru at h
  split at h
  · cases h
    cases hx.den (by intro _ z; cases z)
    rfl
  · cases h
    cases hx.den (by intro _ z; cases z)
    rfl
  · cases h
    cases hx.den (by intro _ z; cases z)
    rfl
  · cases h
    obtain ⟨p, vs, rfl, h1, h2⟩ := hx.lst R
    exact .inl ⟨vs, SqL.of h1, by rw [isE h2]⟩
  · cases h
    cases hx.den (by intro _ z; cases z) with
    | tup s t => exact .inr (.inl ⟨_, sub_t R.sub s, by rw [isE t]⟩)
  · split at h
    · cases h
      rename_i hl
      cases hx.den (by intro _ z; cases z)
      exact ⟨lineM hl, rfl⟩
    · cases h
  · cases h
theorem maxI_ok {ns : List Int} {m : Int} (h : maxI ns = some m) : m ∈ ns ∧ ∀ y ∈ ns, y ≤ m := by
  have key : ∀ (r : List Int) (x : Int), (r.foldl (fun a b => if b > a then b else a) x = x ∨ r.foldl (fun a b => if b > a then b else a) x ∈ r) ∧ x ≤ r.foldl (fun a b => if b > a then b else a) x ∧ ∀ y ∈ r, y ≤ r.foldl (fun a b => if b > a then b else a) x := by
    intro r
    induction r with
    | nil => intro x; exact ⟨.inl rfl, Int.le_refl x, fun y hy => by cases hy⟩
    | cons b r ih =>
      intro x
      rw [List.foldl_cons]
      obtain ⟨i1, i2, i3⟩ := ih (if b > x then b else x)
      have hb : b ≤ (if b > x then b else x) ∧ x ≤ (if b > x then b else x) := by split <;> omega
      refine ⟨?_, by omega, fun y hy => ?_⟩
      · rcases i1 with i1 | i1
        · rw [i1]
          split
          · exact .inr List.mem_cons_self
          · exact .inl rfl
        · exact .inr (List.mem_cons_of_mem _ i1)
      · rcases List.mem_cons.mp hy with e | e
        · omega
        · exact i3 y e
  cases ns with
  | nil => cases h
  | cons x r =>
    have e : r.foldl (fun a b => if b > a then b else a) x = m := Option.some.inj h
    obtain ⟨k1, k2, k3⟩ := key r x
    rw [e] at k1 k2 k3
    refine ⟨?_, fun y hy => ?_⟩
    · rcases k1 with k | k
      · rw [k]; exact List.mem_cons_self
      · exact List.mem_cons_of_mem _ k
    · rcases List.mem_cons.mp hy with e | e
      · omega
      · exact k3 y e
theorem minI_ok {ns : List Int} {m : Int} (h : minI ns = some m) : m ∈ ns ∧ ∀ y ∈ ns, m ≤ y := by
  have key : ∀ (r : List Int) (x : Int), (r.foldl (fun a b => if b < a then b else a) x = x ∨ r.foldl (fun a b => if b < a then b else a) x ∈ r) ∧ r.foldl (fun a b => if b < a then b else a) x ≤ x ∧ ∀ y ∈ r, r.foldl (fun a b => if b < a then b else a) x ≤ y := by
    intro r
    induction r with
    | nil => intro x; exact ⟨.inl rfl, Int.le_refl x, fun y hy => by cases hy⟩
    | cons b r ih =>
      intro x
      rw [List.foldl_cons]
      obtain ⟨i1, i2, i3⟩ := ih (if b < x then b else x)
      have hb : (if b < x then b else x) ≤ b ∧ (if b < x then b else x) ≤ x := by split <;> omega
      refine ⟨?_, by omega, fun y hy => ?_⟩
      · rcases i1 with i1 | i1
        · rw [i1]
          split
          · exact .inr List.mem_cons_self
          · exact .inl rfl
        · exact .inr (List.mem_cons_of_mem _ i1)
      · rcases List.mem_cons.mp hy with e | e
        · omega
        · exact i3 y e
  cases ns with
  | nil => cases h
  | cons x r =>
    have e : r.foldl (fun a b => if b < a then b else a) x = m := Option.some.inj h
    obtain ⟨k1, k2, k3⟩ := key r x
    rw [e] at k1 k2 k3
    refine ⟨?_, fun y hy => ?_⟩
    · rcases k1 with k | k
      · rw [k]; exact List.mem_cons_self
      · exact List.mem_cons_of_mem _ k
    · rcases List.mem_cons.mp hy with e | e
      · omega
      · exact k3 y e
theorem insI_perm (x : Int) : ∀ l : List Int, (insI x l).Perm (x :: l)
  | [] => .refl _
  | y :: r => by
    unfold insI
    split
    · exact .refl _
    · exact ((insI_perm x r).cons y).trans (.swap x y r)
theorem insI_sorted (x : Int) : ∀ l : List Int, l.Pairwise (· ≤ ·) → (insI x l).Pairwise (· ≤ ·)
  | [], _ => by simp [insI]
  | y :: r, h => by
    unfold insI
    obtain ⟨h1, h2⟩ := List.pairwise_cons.mp h
    split
    · rename_i hxy
      refine List.pairwise_cons.mpr ⟨fun z hz => ?_, h⟩
      rcases List.mem_cons.mp hz with e | e
      · omega
      · have := h1 z e; omega
    · rename_i hxy
      refine List.pairwise_cons.mpr ⟨fun z hz => ?_, insI_sorted x r h2⟩
      rcases List.mem_cons.mp ((insI_perm x r).mem_iff.mp hz) with e | e
      · omega
      · exact h1 z e
theorem sortI_perm : ∀ l : List Int, (sortI l).Perm l
  | [] => .refl _
  | x :: r => (insI_perm x (sortI r)).trans ((sortI_perm r).cons x)
theorem sortI_sorted : ∀ l : List Int, (sortI l).Pairwise (· ≤ ·)
  | [] => .nil
  | x :: r => insI_sorted x _ (sortI_sorted r)
inductive DenWs (K : PySem.W.Frag) (B : Addr) (σ : L2.St) (env : Env) (G : Hp) : List V → List D → Prop
  | nil : DenWs K B σ env G [] []
  | cons {v : V} {d : D} {vs : List V} {ds : List D} : DenW K B σ env G v d → DenWs K B σ env G vs ds → DenWs K B σ env G (v :: vs) (d :: ds)
theorem DenWs.mono {vs : List V} {ds : List D} (h : DenWs K B σ env G vs ds) (e : Sub G G') : DenWs K B σ env G' vs ds := by
  induction h with
  | nil => exact .nil
  | cons a _ ih => exact .cons (a.mono e) ih
theorem DenWs.one {vs : List V} {d : D} (h : DenWs K B σ env G vs [d]) : ∃ v, vs = [v] ∧ DenW K B σ env G v d := by
  cases h with
  | cons a t =>
    cases t
    exact ⟨_, rfl, a⟩
theorem DenWs.two {vs : List V} {d e : D} (h : DenWs K B σ env G vs [d, e]) : ∃ v w, vs = [v, w] ∧ DenW K B σ env G v d ∧ DenW K B σ env G w e := by
  cases h with
  | cons a t =>
    obtain ⟨w, rfl, b⟩ := t.one
    exact ⟨_, _, rfl, a, b⟩
theorem DenWs.three {vs : List V} {d e f : D} (h : DenWs K B σ env G vs [d, e, f]) : ∃ v w u, vs = [v, w, u] ∧ DenW K B σ env G v d ∧ DenW K B σ env G w e ∧ DenW K B σ env G u f := by
  cases h with
  | cons a t =>
    obtain ⟨w, u, rfl, b, c⟩ := t.two
    exact ⟨_, _, _, rfl, a, b, c⟩
theorem blt_snd (R : Rel K B G0 H0 σ env β G H) {b : Bt} {vs : List V} {ds : List D} {dz : D} {Q : VK} (h : dBlt b ds = some dz) (hx : DenWs K B σ env G vs ds)
    (q : ∀ v G' H', Ext B G H G' H' → BagAt B G' H' β → Den K B G' v dz → Q v H') : rBlt K b vs H Q := by
  unfold dBlt at h
  split at h
  · cases h
    obtain ⟨v, rfl, a⟩ := hx.one
    obtain ⟨p, ws, rfl, h1, h2⟩ := a.lst R
    refine .inl ⟨p, ws, rfl, .inl (SqL.of h1), q _ G H (Ext.refl R.sub) R.bag ?_⟩
    rw [h2.length]
    exact .int _
  · cases h
    obtain ⟨v, rfl, a⟩ := hx.one
    cases a.den (by intro _ z; cases z) with
    | tup s t =>
      refine .inl ⟨_, _, rfl, .inr (sub_t R.sub s), q _ G H (Ext.refl R.sub) R.bag ?_⟩
      rw [t.length]
      exact .int _
  · split at h
    · cases h
      rename_i hl
      obtain ⟨v, rfl, a⟩ := hx.one
      cases a.den (by intro _ z; cases z)
      exact .inr ⟨_, rfl, lineM hl, q _ G H (Ext.refl R.sub) R.bag (.int _)⟩
    · cases h
  · cases h
    obtain ⟨v, rfl, a⟩ := hx.one
    cases a.den (by intro _ z; cases z)
    exact ⟨_, rfl, q _ G H (Ext.refl R.sub) R.bag (.int _)⟩
  · cases h
    obtain ⟨v, w, rfl, a, a2⟩ := hx.two
    cases a.den (by intro _ z; cases z)
    cases a2.den (by intro _ z; cases z)
    exact .inl ⟨_, _, rfl, q _ G H (Ext.refl R.sub) R.bag (.int _)⟩
  · cases h
    obtain ⟨v, w, u, rfl, a, a2, a3⟩ := hx.three
    cases a.den (by intro _ z; cases z)
    cases a2.den (by intro _ z; cases z)
    cases a3.den (by intro _ z; cases z)
    exact .inr (.inr ⟨_, _, _, rfl, q _ G H (Ext.refl R.sub) R.bag (.int _)⟩)
  · obtain ⟨m, h1, rfl⟩ := Option.map_eq_some_iff.mp h
    obtain ⟨ns, h2, h3⟩ := Option.bind_eq_some_iff.mp h1
    obtain ⟨v, rfl, a⟩ := hx.one
    obtain ⟨p, ws, rfl, g1, g2⟩ := a.lst R
    have e := g2.ints h2
    subst e
    obtain ⟨m1, m2⟩ := maxI_ok h3
    refine .inr (.inl ⟨p, ns, rfl, SqL.of g1, List.length_pos_of_mem m1, fun z z1 z2 => ?_⟩)
    have : z = m := Int.le_antisymm (m2 z z1) (z2 m m1)
    rw [this]
    exact q _ G H (Ext.refl R.sub) R.bag (.int _)
  · cases h
    obtain ⟨v, w, rfl, a, a2⟩ := hx.two
    cases a.den (by intro _ z; cases z)
    cases a2.den (by intro _ z; cases z)
    exact .inl ⟨_, _, rfl, q _ G H (Ext.refl R.sub) R.bag (.int _)⟩
  · cases h
    obtain ⟨v, w, u, rfl, a, a2, a3⟩ := hx.three
    cases a.den (by intro _ z; cases z)
    cases a2.den (by intro _ z; cases z)
    cases a3.den (by intro _ z; cases z)
    exact .inr (.inr ⟨_, _, _, rfl, q _ G H (Ext.refl R.sub) R.bag (.int _)⟩)
  · obtain ⟨m, h1, rfl⟩ := Option.map_eq_some_iff.mp h
    obtain ⟨ns, h2, h3⟩ := Option.bind_eq_some_iff.mp h1
    obtain ⟨v, rfl, a⟩ := hx.one
    obtain ⟨p, ws, rfl, g1, g2⟩ := a.lst R
    have e := g2.ints h2
    subst e
    obtain ⟨m1, m2⟩ := minI_ok h3
    refine .inr (.inl ⟨p, ns, rfl, SqL.of g1, List.length_pos_of_mem m1, fun z z1 z2 => ?_⟩)
    have : z = m := Int.le_antisymm (z2 m m1) (m2 z z1)
    rw [this]
    exact q _ G H (Ext.refl R.sub) R.bag (.int _)
  · cases h
    obtain ⟨v, rfl, a⟩ := hx.one
    cases a.den (by intro _ z; cases z)
    exact .inl ⟨_, rfl, q _ G H (Ext.refl R.sub) R.bag (.int _)⟩
  · cases h
    obtain ⟨v, rfl, a⟩ := hx.one
    cases a.den (by intro _ z; cases z)
    exact .inr ⟨_, rfl, q _ G H (Ext.refl R.sub) R.bag (.int _)⟩
  · cases h
    obtain ⟨v, rfl, a⟩ := hx.one
    obtain ⟨p, ws, rfl, h1, h2⟩ := a.lst R
    exact ⟨p, ws, rfl, .inl ⟨SqL.of h1, q_tup R h2 q⟩⟩
  · cases h
    obtain ⟨v, rfl, a⟩ := hx.one
    cases a.den (by intro _ z; cases z) with
    | tup s t => exact ⟨_, _, rfl, .inr ⟨sub_t R.sub s, q _ G H (Ext.refl R.sub) R.bag (.tup s t)⟩⟩
  · obtain ⟨ns, h1, rfl⟩ := Option.map_eq_some_iff.mp h
    obtain ⟨v, rfl, a⟩ := hx.one
    obtain ⟨p, ws, rfl, g1, g2⟩ := a.lst R
    have e := g2.ints h1
    subst e
    exact ⟨p, ns, rfl, SqL.of g1, q _ G H (Ext.refl R.sub) R.bag (.int _)⟩
  · obtain ⟨ns, h1, rfl⟩ := Option.map_eq_some_iff.mp h
    obtain ⟨v, rfl, a⟩ := hx.one
    obtain ⟨p, ws, rfl, g1, g2⟩ := a.lst R
    have e := g2.bools h1
    subst e
    exact ⟨p, ns, rfl, SqL.of g1, q _ G H (Ext.refl R.sub) R.bag (.bl _)⟩
  · obtain ⟨ns, h1, rfl⟩ := Option.map_eq_some_iff.mp h
    obtain ⟨v, rfl, a⟩ := hx.one
    obtain ⟨p, ws, rfl, g1, g2⟩ := a.lst R
    have e := g2.bools h1
    subst e
    exact ⟨p, ns, rfl, SqL.of g1, q _ G H (Ext.refl R.sub) R.bag (.bl _)⟩
  · cases h
    obtain ⟨v, rfl, a⟩ := hx.one
    obtain ⟨p, ws, rfl, h1, h2⟩ := a.lst R
    exact ⟨p, ws, rfl, .inl (SqL.of h1), q_lst R h2 q⟩
  · cases h
    obtain ⟨v, rfl, a⟩ := hx.one
    cases a.den (by intro _ z; cases z) with
    | tup s t => exact ⟨_, _, rfl, .inr (sub_t R.sub s), q_lst R t q⟩
  · obtain ⟨ns, h1, rfl⟩ := Option.map_eq_some_iff.mp h
    obtain ⟨v, rfl, a⟩ := hx.one
    obtain ⟨p, ws, rfl, g1, g2⟩ := a.lst R
    have e := g2.ints h1
    subst e
    refine ⟨p, ns, rfl, SqL.of g1, fun ns' p' hp hs hn => ?_⟩
    have : ns' = sortI ns := PySem.W.ksm_same (hp.trans (sortI_perm ns).symm) hs (sortI_sorted ns)
    rw [this]
    exact q_lst R (denInts _) q p' hn
  · cases h
theorem ix_snd (R : Rel K B G0 H0 σ env β G H) {x y : V} {dx dy dz : D} {Q : VK} (h : dIx dx dy = some dz) (hx : DenW K B σ env G x dx) (hy : Den K B G y dy)
    (q : ∀ v, Den K B G v dz → Q v H) : rIx K x y H Q := by
  unfold dIx at h
  split at h
  · cases hy
    obtain ⟨p, ws, rfl, h1, h2⟩ := hx.lst R
    unfold atI at h
    obtain ⟨j, h3, h4⟩ := Option.bind_eq_some_iff.mp h
    obtain ⟨v, h5, h6⟩ := h2.get h4
    refine .inl ⟨p, ws, _, v, rfl, rfl, SqL.of h1, ?_, q v h6⟩
    unfold atI
    rw [h2.length, h3]
    exact h5
  · cases hy
    cases hx.den (by intro _ z; cases z) with
    | tup s t =>
      unfold atI at h
      obtain ⟨j, h3, h4⟩ := Option.bind_eq_some_iff.mp h
      obtain ⟨v, h5, h6⟩ := t.get h4
      refine .inr (.inl ⟨_, _, _, v, rfl, rfl, sub_t R.sub s, ?_, q v h6⟩)
      unfold atI
      rw [t.length, h3]
      exact h5
  · cases h
theorem cut_den {vs : List V} {ds : List D} (h : DenAll K B G vs ds) (lo hi : Option Int) : DenAll K B G (cutV vs lo hi) (cutD ds lo hi) := by
  unfold cutV cutD
  rw [h.length]
  exact (h.drop _).take _
theorem cut_whole {vs : List V} {ds : List D} (t : DenAll K B G vs ds) {lo hi : Option Int} (e : HT.sIx vs.length 0 lo = 0 ∧ HT.sIx vs.length vs.length hi = vs.length) : cutD ds lo hi = ds := by
  unfold cutD
  rw [← t.length, e.1, e.2, List.drop_zero, Nat.sub_zero, t.length, List.take_length]
theorem sl_snd (R : Rel K B G0 H0 σ env β G H) {x : V} {dx dz : D} {lo hi : Option Int} {Q : VK} (h : dSl dx lo hi = some dz) (hx : DenW K B σ env G x dx)
    (q : ∀ v G' H', Ext B G H G' H' → BagAt B G' H' β → Den K B G' v dz → Q v H') : rSl K x lo hi H Q := by
  unfold dSl at h
  split at h
  · cases h
    obtain ⟨p, ws, rfl, h1, h2⟩ := hx.lst R
    exact .inl ⟨p, ws, rfl, SqL.of h1, q_lst R (cut_den h2 lo hi) q⟩
  · cases h
    cases hx.den (by intro _ z; cases z) with
    | tup s t =>
      refine .inr (.inl ⟨_, _, rfl, sub_t R.sub s, fun e => ?_, fun _ => q_tup R (cut_den t lo hi) q⟩)
      rw [cut_whole t e] at q
      exact q _ G H (Ext.refl R.sub) R.bag (.tup s t)
  · cases h
end
end LT

namespace LT
open PySem PySem.Spec PyProof.Rows L2
inductive SrcAt (K : PySem.W.Frag) (B : Addr) (G H : Hp) : It → List D → Prop
  | lst {a : Addr} {vs : List V} {xs : List D} : H a = some (.lst vs) → DenAll K B G vs xs → SrcAt K B G H (Itl K a) xs
  | tup {a : Addr} {vs : List V} {xs : List D} : SqT K H a vs → DenAll K B G vs xs → SrcAt K B G H (Itt K a) xs
  | rng (lo : Int) (n : Nat) : SrcAt K B G H (Itr lo n) (rangeD lo n)
  | enum {a : Addr} {vs : List V} {xs : List D} : H a = some (.lst vs) → DenAll K B G vs xs → SrcAt K B G H (Ite K a) (enumD xs)
  | zip {a b : Addr} {vs ws : List V} {xs ys : List D} : H a = some (.lst vs) → DenAll K B G vs xs → H b = some (.lst ws) → DenAll K B G ws ys → SrcAt K B G H (Itz K a b) (zipD xs ys)
section
variable {K : PySem.W.Frag} {B : Addr} {G0 H0 G H G' H' : Hp} {σ σ' : L2.St} {env env' : Env} {β β' : BS} {J : It} {xs : List D}
theorem rangeD_len (lo : Int) (n : Nat) : (rangeD lo n).length = n := by simp [rangeD]
theorem rangeD_get (lo : Int) (n i : Nat) (h : i < n) : (rangeD lo n)[i]? = some (.int (lo + (i : Nat))) := by
  unfold rangeD
  rw [List.getElem?_map, List.getElem?_range h]
  rfl
theorem enumD_len (xs : List D) : (enumD xs).length = xs.length := by simp [enumD]
theorem enumD_get (xs : List D) (i : Nat) : (enumD xs)[i]? = xs[i]?.map fun x => .tup [.int (i : Nat), x] := by
  unfold enumD
  rw [List.getElem?_map, List.getElem?_zipIdx]
  cases xs[i]? <;> simp
theorem zipD_len (xs ys : List D) : (zipD xs ys).length = min xs.length ys.length := by simp [zipD]
theorem zipD_get (xs ys : List D) (i : Nat) : (zipD xs ys)[i]? = (xs.zip ys)[i]?.map fun p => .tup [p.1, p.2] := by
  unfold zipD
  rw [List.getElem?_map]
theorem SrcAt.go (s : SrcAt K B G H J xs) {i : Nat} (h : i < xs.length) : J.go i H := by
  cases s with
  | lst h1 h2 =>
    have hv := h2.length
    exact ⟨_, _, SqL.of h1, List.getElem?_eq_getElem (by omega)⟩
  | tup h1 h2 =>
    have hv := h2.length
    exact ⟨_, _, h1, List.getElem?_eq_getElem (by omega)⟩
  | rng lo n =>
    rw [rangeD_len] at h
    exact h
  | enum h1 h2 =>
    have hv := h2.length
    rw [enumD_len] at h
    exact ⟨_, _, SqL.of h1, List.getElem?_eq_getElem (by omega)⟩
  | zip h1 h2 h3 h4 =>
    have hv := h2.length
    have hw := h4.length
    rw [zipD_len] at h
    exact ⟨_, _, _, _, SqL.of h1, SqL.of h3, List.getElem?_eq_getElem (by omega), List.getElem?_eq_getElem (by omega)⟩
theorem SrcAt.stop (s : SrcAt K B G H J xs) {i : Nat} (h : xs.length ≤ i) : J.stop i H := by
  cases s with
  | lst h1 h2 =>
    have hv := h2.length
    exact ⟨_, SqL.of h1, by omega⟩
  | tup h1 h2 =>
    have hv := h2.length
    exact ⟨_, h1, by omega⟩
  | rng lo n =>
    rw [rangeD_len] at h
    exact h
  | enum h1 h2 =>
    have hv := h2.length
    rw [enumD_len] at h
    exact ⟨_, SqL.of h1, by omega⟩
  | zip h1 h2 h3 h4 =>
    have hv := h2.length
    have hw := h4.length
    rw [zipD_len] at h
    exact ⟨_, _, SqL.of h1, SqL.of h3, by omega⟩
theorem SrcAt.yld (s : SrcAt K B G H J xs) (R : Rel K B G0 H0 σ env β G H) {i : Nat} {d : D} (h : xs[i]? = some d) {x : V} (y : J.yld i H x H') : ∃ G', Ext B G H G' H' ∧ BagAt B G' H' β ∧ Den K B G' x d := by
  cases s with
  | lst h1 h2 =>
    obtain ⟨rfl, y2⟩ := y
    obtain ⟨v, g1, g2⟩ := h2.get h
    have e := y2 _ (SqL.of h1)
    rw [g1] at e
    cases e
    exact ⟨G, Ext.refl R.sub, R.bag, g2⟩
  | tup h1 h2 =>
    obtain ⟨rfl, y2⟩ := y
    obtain ⟨v, g1, g2⟩ := h2.get h
    have e := y2 _ h1
    rw [g1] at e
    cases e
    exact ⟨G, Ext.refl R.sub, R.bag, g2⟩
  | rng lo n =>
    obtain ⟨rfl, rfl⟩ := y
    have hi : i < n := by
      have := List.getElem?_eq_some_iff.mp h
      obtain ⟨q, _⟩ := this
      rwa [rangeD_len] at q
    rw [rangeD_get lo n i hi] at h
    cases h
    exact ⟨G, Ext.refl R.sub, R.bag, .int _⟩
  | enum h1 h2 =>
    obtain ⟨T, z, rfl, hT, rfl, y2⟩ := y
    rw [enumD_get] at h
    obtain ⟨d2, g1, rfl⟩ := Option.map_eq_some_iff.mp h
    obtain ⟨v, g2, g3⟩ := h2.get g1
    have e := y2 _ (SqL.of h1)
    rw [g2] at e
    cases e
    have ee := Ext.new (B := B) (o := HO.tup [V.int (i : Nat), z]) R.sub hT
    exact ⟨_, ee, R.bag.new R.sub hT, .tup (SqT.of upd_same) (.cons (.int _) (.cons (g3.mono ee.gg) .nil))⟩
  | zip h1 h2 h3 h4 =>
    obtain ⟨T, z, z2, rfl, hT, rfl, y2, y3⟩ := y
    rw [zipD_get] at h
    obtain ⟨⟨d1, d2⟩, g1, rfl⟩ := Option.map_eq_some_iff.mp h
    rw [List.getElem?_zip_eq_some] at g1
    obtain ⟨v, g2, g3⟩ := h2.get g1.1
    obtain ⟨w, g4, g5⟩ := h4.get g1.2
    have e := y2 _ (SqL.of h1)
    rw [g2] at e
    cases e
    have e := y3 _ (SqL.of h3)
    rw [g4] at e
    cases e
    have ee := Ext.new (B := B) (o := HO.tup [z, z2]) R.sub hT
    exact ⟨_, ee, R.bag.new R.sub hT, .tup (SqT.of upd_same) (.cons (g3.mono ee.gg) (.cons (g5.mono ee.gg) .nil))⟩
theorem get_set {α : Type} {l : List α} {i j : Nat} {x : α} : (l.set i x)[j]? = if i = j then (if i < l.length then some x else none) else l[j]? := by
  rw [List.getElem?_set]
theorem Rel.setD (R : Rel K B G0 H0 σ env β G H) {i : Nat} {v : V} {x : D} (h : Den K B G v x) : Rel K B G0 H0 (σ.set i (some v)) (env.set i (some (.d x))) β G H := by
  refine { len := by rw [List.length_set, List.length_set]; exact R.len, sub := R.sub, g0 := R.g0, h0 := R.h0, n0 := R.n0, b0 := R.b0, bag := R.bag, d := fun j y hj => ?_, o := fun j ys hj => ?_, inj := fun j k ys zs p h1 h2 h3 h4 => ?_ }
  · rw [get_set] at hj ⊢
    by_cases e : i = j
    · rw [if_pos e] at hj ⊢
      by_cases l : i < env.length
      · rw [if_pos l] at hj
        rw [if_pos (by rw [R.len]; exact l)]
        cases hj
        exact ⟨v, rfl, h⟩
      · rw [if_neg l] at hj
        cases hj
    · rw [if_neg e] at hj ⊢
      exact R.d j y hj
  · rw [get_set] at hj ⊢
    by_cases e : i = j
    · rw [if_pos e] at hj
      by_cases l : i < env.length
      · rw [if_pos l] at hj
        cases hj
      · rw [if_neg l] at hj
        cases hj
    · rw [if_neg e] at hj ⊢
      exact R.o j ys hj
  · rw [get_set] at h1 h2 h3 h4
    have e1 : i ≠ j := fun e => by
      rw [if_pos e] at h1
      by_cases l : i < env.length
      · rw [if_pos l] at h1; cases h1
      · rw [if_neg l] at h1; cases h1
    have e2 : i ≠ k := fun e => by
      rw [if_pos e] at h2
      by_cases l : i < env.length
      · rw [if_pos l] at h2; cases h2
      · rw [if_neg l] at h2; cases h2
    rw [if_neg e1] at h1 h3
    rw [if_neg e2] at h2 h4
    exact R.inj j k ys zs p h1 h2 h3 h4
theorem Rel.setO (R : Rel K B G0 H0 σ env β G H) {i : Nat} {p : Addr} {vs : List V} {xs : List D} (hp : H p = some (.lst vs)) (hg : G p = none) (h0 : H0 p = none) (hno : ∀ (j : Nat) (ys : List D), j ≠ i → env[j]? = some (some (.own ys)) → σ[j]? ≠ some (some (.ref p))) (h : DenAll K B G vs xs) : Rel K B G0 H0 (σ.set i (some (.ref p))) (env.set i (some (.own xs))) β G H := by
  refine { len := by rw [List.length_set, List.length_set]; exact R.len, sub := R.sub, g0 := R.g0, h0 := R.h0, n0 := R.n0, b0 := R.b0, bag := R.bag, d := fun j y hj => ?_, o := fun j ys hj => ?_, inj := fun j k ys zs q h1 h2 h3 h4 => ?_ }
  · rw [get_set] at hj ⊢
    by_cases e : i = j
    · rw [if_pos e] at hj
      by_cases l : i < env.length
      · rw [if_pos l] at hj; cases hj
      · rw [if_neg l] at hj; cases hj
    · rw [if_neg e] at hj ⊢
      exact R.d j y hj
  · rw [get_set] at hj ⊢
    by_cases e : i = j
    · rw [if_pos e] at hj ⊢
      by_cases l : i < env.length
      · rw [if_pos l] at hj
        rw [if_pos (by rw [R.len]; exact l)]
        cases hj
        exact ⟨p, vs, rfl, hp, hg, h0, h⟩
      · rw [if_neg l] at hj
        cases hj
    · rw [if_neg e] at hj ⊢
      exact R.o j ys hj
  · have other : ∀ (j : Nat) (ys : List D), i ≠ j → (env.set i (some (Sl.own xs)))[j]? = some (some (.own ys)) → (σ.set i (some (.ref p)))[j]? = some (some (.ref q)) → env[j]? = some (some (.own ys)) ∧ σ[j]? = some (some (.ref q)) := fun j ys e a b => by
      rw [get_set, if_neg e] at a b
      exact ⟨a, b⟩
    have mine : ∀ ys, (env.set i (some (Sl.own xs)))[i]? = some (some (.own ys)) → (σ.set i (some (.ref p)))[i]? = some (some (.ref q)) → q = p := fun ys a b => by
      rw [get_set, if_pos rfl] at a b
      by_cases l : i < σ.length
      · rw [if_pos l] at b
        cases b
        rfl
      · rw [if_neg l] at b
        cases b
    by_cases e1 : i = j
    · by_cases e2 : i = k
      · rw [← e1, ← e2]
      · subst e1
        have q1 := mine ys h1 h3
        obtain ⟨a, b⟩ := other k zs e2 h2 h4
        rw [q1] at b
        exact absurd b (hno k zs (Ne.symm e2) a)
    · by_cases e2 : i = k
      · subst e2
        have q1 := mine zs h2 h4
        obtain ⟨a, b⟩ := other j ys e1 h1 h3
        rw [q1] at b
        exact absurd b (hno j ys (Ne.symm e1) a)
      · obtain ⟨a1, b1⟩ := other j ys e1 h1 h3
        obtain ⟨a2, b2⟩ := other k zs e2 h2 h4
        exact R.inj j k ys zs q a1 a2 b1 b2
theorem Rel.mutO (R : Rel K B G0 H0 σ env β G H) {i : Nat} {p : Addr} {xs xs' : List D} {vs' : List V} (hi : env[i]? = some (some (.own xs))) (hs : σ[i]? = some (some (.ref p))) (h : DenAll K B G vs' xs') : Rel K B G0 H0 σ (env.set i (some (.own xs'))) β G (upd H p (.lst vs')) := by
  obtain ⟨p', vs, g1, g2, g3, g4, g5⟩ := R.o i xs hi
  rw [hs] at g1
  cases g1
  have pb : p ≠ B := fun q => by
    obtain ⟨o, ho⟩ := R.b0
    rw [q, ho] at g4
    cases g4
  have li : i < env.length := (List.getElem?_eq_some_iff.mp hi).1
  refine { len := by rw [List.length_set]; exact R.len, sub := fun a o q => ?_, g0 := R.g0, h0 := fun a o q qb => ?_, n0 := R.n0, b0 := R.b0, bag := ?_, d := fun j y hj => ?_, o := fun j ys hj => ?_, inj := fun j k ys zs q h1 h2 h3 h4 => ?_ }
  · rw [upd_ne (ne_of_none q g3)]
    exact R.sub a o q
  · rw [upd_ne (ne_of_none q g4)]
    exact R.h0 a o q qb
  · obtain ⟨⟨C, k1, k2⟩, k3, k4⟩ := R.bag
    refine ⟨⟨C, ?_, k2⟩, k3, k4⟩
    rw [upd_ne pb.symm]
    exact k1
  · rw [get_set] at hj
    by_cases e : i = j
    · rw [if_pos e, if_pos li] at hj
      cases hj
    · rw [if_neg e] at hj
      exact R.d j y hj
  · rw [get_set] at hj
    by_cases e : i = j
    · rw [if_pos e, if_pos li] at hj
      cases hj
      subst e
      exact ⟨p, vs', hs, upd_same, g3, g4, h⟩
    · rw [if_neg e] at hj
      obtain ⟨p2, ws, k1, k2, k3, k4, k5⟩ := R.o j ys hj
      have ne : p2 ≠ p := fun q => by
        subst q
        exact e (R.inj i j xs ys p2 hi hj hs k1)
      exact ⟨p2, ws, k1, by rw [upd_ne ne]; exact k2, k3, k4, k5⟩
  · have back : ∀ (j : Nat) (ys : List D), (env.set i (some (Sl.own xs')))[j]? = some (some (.own ys)) → ∃ zs, env[j]? = some (some (.own zs)) := fun j ys a => by
      rw [get_set] at a
      by_cases e : i = j
      · subst e
        exact ⟨xs, hi⟩
      · rw [if_neg e] at a
        exact ⟨ys, a⟩
    obtain ⟨z1, a1⟩ := back j ys h1
    obtain ⟨z2, a2⟩ := back k zs h2
    exact R.inj j k z1 z2 q a1 a2 h3 h4
theorem Rel.frz1 (R : Rel K B G0 H0 σ env β G H) (i : Nat) : ∃ G', Sub G G' ∧ Rel K B G0 H0 σ (frz1 i env) β G' H := by
  unfold LT.frz1
  split
  · rename_i xs hi
    obtain ⟨p, vs, g1, g2, g3, g4, g5⟩ := R.o i xs hi
    have li : i < env.length := (List.getElem?_eq_some_iff.mp hi).1
    have gg : Sub G (upd G p (.lst vs)) := fun a z h => by
      rw [upd_ne (ne_of_none h g3)]
      exact h
    have pb : p ≠ B := fun q => by
      obtain ⟨o, ho⟩ := R.b0
      rw [q, ho] at g4
      cases g4
    refine ⟨upd G p (.lst vs), gg, ?_⟩
    refine { len := by rw [List.length_set]; exact R.len, sub := fun a o q => ?_, g0 := R.g0.trans gg, h0 := R.h0, n0 := fun a o q q2 => ?_, b0 := R.b0, bag := ?_, d := fun j y hj => ?_, o := fun j ys hj => ?_, inj := fun j k ys zs q h1 h2 h3 h4 => ?_ }
    · by_cases e : a = p
      · subst e
        rw [upd_same] at q
        cases q
        exact g2
      · rw [upd_ne e] at q
        exact R.sub a o q
    · rw [upd_ne (ne_of_none q g4)]
      exact R.n0 a o q q2
    · obtain ⟨⟨C, k1, k2⟩, k3, k4⟩ := R.bag
      refine ⟨⟨C, k1, gg _ _ k2⟩, ?_, k4⟩
      rw [upd_ne pb.symm]
      exact k3
    · rw [get_set] at hj
      by_cases e : i = j
      · rw [if_pos e, if_pos li] at hj
        cases hj
        subst e
        exact ⟨.ref p, g1, .lst upd_same (g5.mono gg)⟩
      · rw [if_neg e] at hj
        obtain ⟨v, k1, k2⟩ := R.d j y hj
        exact ⟨v, k1, k2.mono gg⟩
    · rw [get_set] at hj
      by_cases e : i = j
      · rw [if_pos e, if_pos li] at hj
        cases hj
      · rw [if_neg e] at hj
        obtain ⟨p2, ws, k1, k2, k3, k4, k5⟩ := R.o j ys hj
        have ne : p2 ≠ p := fun q => by
          subst q
          exact e (R.inj i j xs ys p2 hi hj g1 k1)
        exact ⟨p2, ws, k1, k2, by rw [upd_ne ne]; exact k3, k4, k5.mono gg⟩
    · have back : ∀ (j : Nat) (ys : List D), (env.set i (some (Sl.d (.lst xs))))[j]? = some (some (.own ys)) → env[j]? = some (some (.own ys)) := fun j ys a => by
        rw [get_set] at a
        by_cases e : i = j
        · rw [if_pos e, if_pos li] at a
          cases a
        · rw [if_neg e] at a
          exact a
      exact R.inj j k ys zs q (back j ys h1) (back k zs h2) h3 h4
  · exact ⟨G, Sub.refl G, R⟩
theorem Rel.frz : ∀ (is : List Nat) {env : Env} {G : Hp}, Rel K B G0 H0 σ env β G H → ∃ G', Sub G G' ∧ Rel K B G0 H0 σ (frz is env) β G' H
  | [], env, G, R => ⟨G, Sub.refl G, R⟩
  | i :: is, env, G, R => by
    obtain ⟨G1, s1, R1⟩ := R.frz1 i
    obtain ⟨G2, s2, R2⟩ := Rel.frz is R1
    exact ⟨G2, s1.trans s2, R2⟩
mutual
theorem bind_snd : ∀ (t : CT) (x : D) (env env' : Env), bindT t x env = some env' → ∀ {σ : L2.St} {v : V} {G : Hp}, Rel K B G0 H0 σ env β G H → Den K B G v x → ∀ (Q : L2.St → Hp → Prop), (∀ σ', (∀ j : Nat, j ∉ t.slots → σ'[j]? = σ[j]? ∧ env'[j]? = env[j]?) → Rel K B G0 H0 σ' env' β G H → Q σ' H) → semG K t v σ H Q
  | .name i, x, env, env', h, σ, v, G, R, hd, Q, q => by
    have e : env.set i (some (.d x)) = env' := Option.some.inj (show some (env.set i (some (.d x))) = some env' from h)
    subst e
    refine q (σ.set i (some v)) (fun j hj => ?_) (R.setD hd)
    have ne : i ≠ j := fun z => hj (by rw [z]; exact List.mem_singleton.mpr rfl)
    exact ⟨by rw [get_set, if_neg ne], by rw [get_set, if_neg ne]⟩
  | .tup ts, x, env, env', h, σ, v, G, R, hd, Q, q => by
    cases x with
    | tup xs =>
      cases hd with
      | tup s t =>
        have h' : bindTs ts xs env = some env' := h
        refine .inl ⟨_, _, rfl, sub_t R.sub s, ?_, binds_snd ts xs env env' h' R t Q q⟩
        rw [t.length]
        exact binds_len ts xs env env' h'
    | lst xs =>
      cases hd with
      | lst s t =>
        have h' : bindTs ts xs env = some env' := h
        refine .inr ⟨_, _, rfl, SqL.of (R.sub _ _ s), ?_, binds_snd ts xs env env' h' R t Q q⟩
        rw [t.length]
        exact binds_len ts xs env env' h'
    | _ => cases h
theorem binds_snd : ∀ (ts : List CT) (xs : List D) (env env' : Env), bindTs ts xs env = some env' → ∀ {σ : L2.St} {vs : List V} {G : Hp}, Rel K B G0 H0 σ env β G H → DenAll K B G vs xs → ∀ (Q : L2.St → Hp → Prop), (∀ σ', (∀ j : Nat, j ∉ CT.slotss ts → σ'[j]? = σ[j]? ∧ env'[j]? = env[j]?) → Rel K B G0 H0 σ' env' β G H → Q σ' H) → semGs K ts vs σ H Q
  | [], xs, env, env', h, σ, vs, G, R, hd, Q, q => by
    cases xs with
    | nil =>
      cases hd
      cases h
      exact ⟨rfl, q σ (fun _ _ => ⟨rfl, rfl⟩) R⟩
    | cons _ _ => cases h
  | t :: ts, xs, env, env', h, σ, vs, G, R, hd, Q, q => by
    cases xs with
    | nil => cases h
    | cons x xs =>
      cases hd with
      | cons a tl =>
        obtain ⟨e1, h1, h2⟩ := Option.bind_eq_some_iff.mp (show (bindT t x env).bind (bindTs ts xs) = some env' from h)
        refine ⟨_, _, rfl, bind_snd t x env e1 h1 R a _ fun σ1 k1 R1 => binds_snd ts xs e1 env' h2 R1 tl Q fun σ2 k2 R2 => q σ2 (fun j hj => ?_) R2⟩
        have hj' : j ∉ t.slots ∧ j ∉ CT.slotss ts := by
          have : j ∉ t.slots ++ CT.slotss ts := hj
          rw [List.mem_append] at this
          exact ⟨fun z => this (.inl z), fun z => this (.inr z)⟩
        exact ⟨(k2 j hj'.2).1.trans (k1 j hj'.1).1, (k2 j hj'.2).2.trans (k1 j hj'.1).2⟩
theorem binds_len : ∀ (ts : List CT) (xs : List D) (env env' : Env), bindTs ts xs env = some env' → xs.length = CT.lens ts
  | [], xs, env, env', h => by
    cases xs with
    | nil => rfl
    | cons _ _ => cases h
  | t :: ts, xs, env, env', h => by
    cases xs with
    | nil => cases h
    | cons x xs =>
      obtain ⟨e1, h1, h2⟩ := Option.bind_eq_some_iff.mp (show (bindT t x env).bind (bindTs ts xs) = some env' from h)
      show xs.length + 1 = CT.lens ts + 1
      rw [binds_len ts xs e1 env' h2]
end
mutual
theorem bindT_len : ∀ (t : CT) (x : D) (env env' : Env), bindT t x env = some env' → env'.length = env.length
  | .name i, x, env, env', h => by
    have e : env.set i (some (.d x)) = env' := Option.some.inj (show some (env.set i (some (.d x))) = some env' from h)
    rw [← e, List.length_set]
  | .tup ts, x, env, env', h => by
    cases x with
    | tup xs => exact bindTs_len ts xs env env' h
    | lst xs => exact bindTs_len ts xs env env' h
    | _ => cases h
theorem bindTs_len : ∀ (ts : List CT) (xs : List D) (env env' : Env), bindTs ts xs env = some env' → env'.length = env.length
  | [], xs, env, env', h => by
    cases xs with
    | nil => cases h; rfl
    | cons _ _ => cases h
  | t :: ts, xs, env, env', h => by
    cases xs with
    | nil => cases h
    | cons x xs =>
      obtain ⟨e1, h1, h2⟩ := Option.bind_eq_some_iff.mp (show (bindT t x env).bind (bindTs ts xs) = some env' from h)
      rw [bindTs_len ts xs e1 env' h2, bindT_len t x env e1 h1]
end
theorem wipe_get : ∀ (vs : List Nat) (σ : L2.St) (j : Nat), (wipe σ vs)[j]? = if j ∈ vs then (if j < σ.length then some none else none) else σ[j]?
  | [], σ, j => by simp [wipe]
  | v :: vs, σ, j => by
    unfold wipe
    rw [get_set, wipe_length, wipe_get vs σ j]
    by_cases e : v = j
    · subst e
      simp
    · have : (j ∈ v :: vs) ↔ j ∈ vs := by
        rw [List.mem_cons]
        exact ⟨fun h => h.resolve_left (fun z => e z.symm), .inr⟩
      simp [e, this]
theorem wipeE_length : ∀ (vs : List Nat) (env : Env), (wipeE env vs).length = env.length
  | [], _ => rfl
  | v :: vs, env => by unfold wipeE; rw [List.length_set, wipeE_length vs env]
theorem wipeE_get : ∀ (vs : List Nat) (env : Env) (j : Nat), (wipeE env vs)[j]? = if j ∈ vs then (if j < env.length then some none else none) else env[j]?
  | [], env, j => by simp [wipeE]
  | v :: vs, env, j => by
    unfold wipeE
    rw [get_set, wipeE_length, wipeE_get vs env j]
    by_cases e : v = j
    · subst e
      simp
    · have : (j ∈ v :: vs) ↔ j ∈ vs := by
        rw [List.mem_cons]
        exact ⟨fun h => h.resolve_left (fun z => e z.symm), .inr⟩
      simp [e, this]
theorem Rel.wipe (R : Rel K B G0 H0 σ env β G H) (vs : List Nat) : Rel K B G0 H0 (wipe σ vs) (wipeE env vs) β G H := by
  have ge : ∀ (j : Nat) (s : Sl), (wipeE env vs)[j]? = some (some s) → j ∉ vs ∧ env[j]? = some (some s) := fun j s h => by
    rw [wipeE_get] at h
    by_cases e : j ∈ vs
    · rw [if_pos e] at h
      by_cases l : j < env.length
      · rw [if_pos l] at h; cases h
      · rw [if_neg l] at h; cases h
    · rw [if_neg e] at h
      exact ⟨e, h⟩
  refine { len := by rw [wipe_length, wipeE_length]; exact R.len, sub := R.sub, g0 := R.g0, h0 := R.h0, n0 := R.n0, b0 := R.b0, bag := R.bag, d := fun j y hj => ?_, o := fun j ys hj => ?_, inj := fun j k ys zs q h1 h2 h3 h4 => ?_ }
  · obtain ⟨e, h⟩ := ge j _ hj
    rw [wipe_get, if_neg e]
    exact R.d j y h
  · obtain ⟨e, h⟩ := ge j _ hj
    rw [wipe_get, if_neg e]
    exact R.o j ys h
  · obtain ⟨e1, k1⟩ := ge j _ h1
    obtain ⟨e2, k2⟩ := ge k _ h2
    rw [wipe_get, if_neg e1] at h3
    rw [wipe_get, if_neg e2] at h4
    exact R.inj j k ys zs q k1 k2 h3 h4
theorem Rel.unwipe {vs : List Nat} {G2 H2 : Hp} {β2 : BS} {σ2 : L2.St} {e2 : Env} (R : Rel K B G0 H0 σ env β G H) (hno : ∀ i ∈ vs, ∀ xs, env[i]? ≠ some (some (.own xs))) (hk : ∀ j : Nat, j ∉ vs → σ2[j]? = σ[j]? ∧ e2[j]? = env[j]?) (R2 : Rel K B G0 H0 σ2 e2 β2 G2 H2) (s : Sub G G2) : Rel K B G0 H0 σ env β2 G2 H2 := by
  refine { len := R.len, sub := R2.sub, g0 := R2.g0, h0 := R2.h0, n0 := R2.n0, b0 := R2.b0, bag := R2.bag, d := fun j y hj => ?_, o := fun j ys hj => ?_, inj := R.inj }
  · obtain ⟨v, h1, h2⟩ := R.d j y hj
    exact ⟨v, h1, h2.mono s⟩
  · have e : j ∉ vs := fun z => hno j z ys hj
    have := R2.o j ys (by rw [(hk j e).2]; exact hj)
    rw [(hk j e).1] at this
    exact this
theorem noOwn_ok {own : List (Str × Nat)} (h : noOwn env own = true) : ∀ i ∈ own.map (·.2), ∀ xs, env[i]? ≠ some (some (.own xs)) := fun i hi xs e => by
  have := List.all_eq_true.mp h i hi
  rw [e] at this
  cases this
theorem tgIn_ok {t : CT} {own : List (Str × Nat)} (h : tgIn t own = true) {j : Nat} (hj : j ∉ own.map (·.2)) : j ∉ t.slots := fun z => by
  have := List.all_eq_true.mp h j z
  exact hj (by simpa using this)
theorem wipe_eq {σ2 : L2.St} {vs : List Nat} (hl : σ2.length = σ.length) (hk : ∀ j : Nat, j ∉ vs → σ2[j]? = (wipe σ vs)[j]?) : wipe σ2 vs = wipe σ vs := by
  apply List.ext_getElem?
  intro j
  rw [wipe_get, wipe_get]
  by_cases e : j ∈ vs
  · rw [if_pos e, if_pos e, hl]
  · rw [if_neg e, if_neg e]
    have := hk j e
    rw [wipe_get, if_neg e] at this
    exact this
end
end LT

namespace LT
open PySem PySem.Spec PyProof.Rows L2
def gam (K : PySem.W.Frag) (M : Nat → Mir) (f : Nat) : Sp := fun vs H Q _ => ∃ (B : Addr) (G : Hp) (β : BS) (ds : List D) (d : D) (β' : BS), M f ds β = some (d, β') ∧ Sub G H ∧ BagAt B G H β ∧ DenAll K B G vs ds ∧ ∀ v G' H', Ext B G H G' H' → BagAt B G' H' β' → Den K B G' v d → Q v H'
abbrev QD (K : PySem.W.Frag) (B : Addr) (G H : Hp) (β' : BS) (d : D) (Q : VK) : Prop := ∀ v G' H', Ext B G H G' H' → BagAt B G' H' β' → Den K B G' v d → Q v H'
abbrev QW (K : PySem.W.Frag) (B : Addr) (σ : L2.St) (env : Env) (G H : Hp) (β' : BS) (d : D) (Q : VK) : Prop := ∀ v G' H', Ext B G H G' H' → BagAt B G' H' β' → DenW K B σ env G' v d → Q v H'
abbrev QO (K : PySem.W.Frag) (B : Addr) (G H : Hp) (β' : BS) (xs : List D) (Q : VK) : Prop := ∀ p vs G' H', Ext B G H G' H' → BagAt B G' H' β' → H p = none → H' p = some (.lst vs) → G' p = none → DenAll K B G' vs xs → Q (.ref p) H'
theorem QO.of {K : PySem.W.Frag} {B : Addr} {G H : Hp} {β' : BS} {xs : List D} {Q : VK} (hB : ∃ o, H B = some o) (hs : Sub G H) (q : QD K B G H β' (.lst xs) Q) : QO K B G H β' xs Q := fun p vs G' H' e b hp hp' hg hd => by
  have gg : Sub G' (upd G' p (.lst vs)) := fun a z h => by
    rw [upd_ne (ne_of_none h hg)]
    exact h
  have pb : B ≠ p := fun z => by
    obtain ⟨o, ho⟩ := hB
    rw [z, hp] at ho
    cases ho
  refine q _ (upd G' p (.lst vs)) H' ⟨e.gg.trans gg, fun a z h => ?_, e.hh, fun a z h h2 => ?_⟩ ?_ (.lst upd_same (hd.mono gg))
  · by_cases k : a = p
    · subst k
      rw [upd_same] at h
      cases h
      exact hp'
    · rw [upd_ne k] at h
      exact e.gh a z h
  · rw [upd_ne (ne_of_none h hp)]
    exact e.nw a z h h2
  · obtain ⟨⟨C, k1, k2⟩, k3, k4⟩ := b
    exact ⟨⟨C, k1, gg _ _ k2⟩, by rw [upd_ne pb]; exact k3, k4⟩
section
variable {K : PySem.W.Frag} {M : Nat → Mir} {Γ : Nat → Sp}
def SndP (K : PySem.W.Frag) (M : Nat → Mir) (Γ : Nat → Sp) (c : CE) : Prop := ∀ (env : Env) (β : BS) (d : D) (β' : BS), evP M c env β = some (d, β') → ∀ {B : Addr} {G0 H0 : Hp} {σ : L2.St} {G H : Hp}, Rel K B G0 H0 σ env β G H → ∀ (W : WX) (Q : VK), QD K B G H β' d Q → semE Γ K c W σ H Q
def SndB (K : PySem.W.Frag) (M : Nat → Mir) (Γ : Nat → Sp) (c : CB) : Prop := ∀ (env : Env) (β : BS) (d : Bool) (β' : BS), evB M c env β = some (d, β') → ∀ {B : Addr} {G0 H0 : Hp} {σ : L2.St} {G H : Hp}, Rel K B G0 H0 σ env β G H → ∀ (W : WX) (Q : Bool → Hp → Prop), (∀ G' H', Ext B G H G' H' → BagAt B G' H' β' → Q d H') → semB Γ K c W σ H Q
def SndA (K : PySem.W.Frag) (M : Nat → Mir) (Γ : Nat → Sp) (cs : List CE) : Prop := ∀ (env : Env) (β : BS) (ds : List D) (β' : BS), evA M cs env β = some (ds, β') → ∀ {B : Addr} {G0 H0 : Hp} {σ : L2.St} {G H : Hp}, Rel K B G0 H0 σ env β G H → ∀ (W : WX) (Q : List V → Hp → Prop), (∀ vs G' H', Ext B G H G' H' → BagAt B G' H' β' → DenAll K B G' vs ds → Q vs H') → semA Γ K cs W σ H Q
def SndV (K : PySem.W.Frag) (M : Nat → Mir) (Γ : Nat → Sp) (cs : List CE) : Prop := ∀ (env : Env) (β : BS) (ds : List D) (β' : BS), evV M cs env β = some (ds, β') → ∀ {B : Addr} {G0 H0 : Hp} {σ : L2.St} {G H : Hp}, Rel K B G0 H0 σ env β G H → ∀ (W : WX) (Q : List V → Hp → Prop), (∀ vs G' H', Ext B G H G' H' → BagAt B G' H' β' → DenWs K B σ env G' vs ds → Q vs H') → semA Γ K cs W σ H Q
def SndI (K : PySem.W.Frag) (M : Nat → Mir) (Γ : Nat → Sp) (c : CI) : Prop := ∀ (env : Env) (β : BS) (ds : List D) (β' : BS), evI M c env β = some (ds, β') → ∀ {B : Addr} {G0 H0 : Hp} {σ : L2.St} {G H : Hp}, Rel K B G0 H0 σ env β G H → ∀ (W : WX) (R : It → Hp → Prop),
  (∀ J G' H', Ext B G H G' H' → BagAt B G' H' β' → (∀ β2 G2 H2, Sub G' G2 → Rel K B G0 H0 σ env β2 G2 H2 → SrcAt K B G2 H2 J ds) → (noPk env c = true → ∀ G2 H2, Sub G' G2 → Sub G2 H2 → SrcAt K B G2 H2 J ds) → R J H') → semI Γ K c W σ H R
theorem pk_snd {c : CE} (ih : SndP K M Γ c) {env : Env} {β β' : BS} {d : D} (h : pk env c (evP M c env β) β = some (d, β')) {B : Addr} {G0 H0 : Hp} {σ : L2.St} {G H : Hp} (R : Rel K B G0 H0 σ env β G H) (W : WX) (Q : VK) (q : QW K B σ env G H β' d Q) : semE Γ K c W σ H Q := by
  unfold pk at h
  split at h
  · rename_i xs hp
    cases h
    unfold peek at hp
    split at hp
    · rename_i i
      split at hp
      · rename_i ys hi
        cases hp
        obtain ⟨p, vs, h1, h2, h3, h4, h5⟩ := R.o i _ hi
        exact ⟨.ref p, h1, q _ G H (Ext.refl R.sub) R.bag (.inr ⟨i, _, hi, h1, rfl⟩)⟩
      · cases hp
    · cases hp
  · exact ih env β d β' h R W Q fun v G' H' e b hd => q v G' H' e b (.inl hd)
theorem pk_sndN {c : CE} (ih : SndP K M Γ c) {env : Env} {β β' : BS} {d : D} (h : pk env c (evP M c env β) β = some (d, β')) {B : Addr} {G0 H0 : Hp} {σ : L2.St} {G H : Hp} (R : Rel K B G0 H0 σ env β G H) (W : WX) (Q : VK) (q : ∀ v G' H', Ext B G H G' H' → BagAt B G' H' β' → DenW K B σ env G' v d → (peek env c = none → Den K B G' v d) → Q v H') : semE Γ K c W σ H Q := by
  cases hp : peek env c with
  | none =>
    have h' : evP M c env β = some (d, β') := by
      unfold pk at h
      rw [hp] at h
      exact h
    exact ih env β d β' h' R W Q fun v G' H' e b hd => q v G' H' e b (.inl hd) fun _ => hd
  | some xs => exact pk_snd ih h R W Q fun v G' H' e b hd => q v G' H' e b hd fun z => by rw [hp] at z; cases z
theorem some_pair {α β : Type} {x : Option α} {f : α → β} {y : β} (h : x.map f = some y) : ∃ a, x = some a ∧ f a = y := Option.map_eq_some_iff.mp h
theorem some_bind {α β : Type} {x : Option α} {f : α → Option β} {y : β} (h : x.bind f = some y) : ∃ a, x = some a ∧ f a = some y := Option.bind_eq_some_iff.mp h
theorem lc_snd {tg : CT} {own : List (Str × Nat)} {tt : TT} {te : TE} {env : Env} {B : Addr} {G0 H0 : Hp} {σ : L2.St} {G1 H1 : Hp} {β1 β' : BS} {J : It} {items res : List D} {Q : VK}
    (R1 : Rel K B G0 H0 σ env β1 G1 H1) (hS : ∀ β2 G2 H2, Sub G1 G2 → Rel K B G0 H0 σ env β2 G2 H2 → SrcAt K B G2 H2 J items) (htg : tgIn tg own = true) (hno : noOwn env own = true) (hlen : items.length ≤ 1000000)
    (step : D → BS → Option (Option D × BS)) (hres : ∃ (go : List D → BS → Option (List D × BS)), (∀ β, go [] β = some ([], β)) ∧ (∀ x xs β r, go (x :: xs) β = some r → ∃ o β2 r2, step x β = some (o, β2) ∧ go xs β2 = some r2 ∧ r = ((match o with | some y => y :: r2.1 | none => r2.1), r2.2)) ∧ go items β1 = some (res, β'))
    (hstep : ∀ x β o β2, step x β = some (o, β2) → ∃ e1, bindT tg x (wipeE env (own.map (·.2))) = some e1 ∧ ∀ {σ2 : L2.St} {G2 H2 : Hp}, Rel K B G0 H0 σ2 e1 β G2 H2 → ∀ (Qt : Hp → Prop) (Qe : V → Hp → Prop),
      (o = none → ∀ G3 H3, Ext B G2 H2 G3 H3 → BagAt B G3 H3 β2 → Qt H3) → (∀ y, o = some y → ∀ v G3 H3, Ext B G2 H2 G3 H3 → BagAt B G3 H3 β2 → Den K B G3 v y → Qe v H3) →
      tt σ2 H2 fun b H3 => if b = true then te σ2 H3 Qe else Qt H3)
    (q : QO K B G1 H1 β' res Q) :
    ∀ D, H1 D = none → ∃ W : Nat → Nat → Hp → Prop, (∃ m, W 0 m (upd H1 D (.lst []))) ∧ ∀ i m H, W i m H →
      (J.stop i H ∧ Q (.ref D) H) ∨ (J.go i H ∧ ∃ Nx : Hp → Prop, (∀ H', Nx H' → ∃ m', m' < m ∧ W (i + 1) m' H') ∧ ∀ x H', J.yld i H x H' → semG K tg x (wipe σ (own.map (·.2))) H' fun σ2 H2 => wipe σ2 (own.map (·.2)) = wipe σ (own.map (·.2)) ∧ tt σ2 H2 fun b H3 =>
        if b = true then te σ2 H3 fun y H4 => ∃ acc, H4 D = some (.lst acc) ∧ acc.length < sizeLine ∧ Nx (upd H4 D (.lst (acc ++ [y]))) else Nx H3) := by
  intro p hp
  obtain ⟨go, go0, go1, gores⟩ := hres
  obtain ⟨oB, hB⟩ := R1.bb
  have pb : p ≠ B := fun z => by rw [z, hB] at hp; cases hp
  refine ⟨fun i m H => ∃ (G : Hp) (β : BS) (acc : List V) (accD rest : List D), i + m = items.length ∧ Ext B G1 H1 G H ∧ BagAt B G H β ∧ H p = some (.lst acc) ∧ G p = none ∧ DenAll K B G acc accD ∧ accD.length ≤ i ∧ go (items.drop i) β = some (rest, β') ∧ accD ++ rest = res,
    ⟨items.length, G1, β1, [], [], res, by omega, Ext.newU R1.sub hp, R1.bag.newU hp, upd_same, ?_, .nil, Nat.le_refl _, gores, rfl⟩, fun i m H hW => ?_⟩
  · cases e : G1 p with
    | none => rfl
    | some o =>
      rw [R1.sub p o e] at hp
      cases hp
  · obtain ⟨G, β, acc, accD, rest, hm, ex, bg, hH, hG, hd, hl, hgo, hr⟩ := hW
    have R : Rel K B G0 H0 σ env β G H := R1.ext ex bg
    have src := hS β G H ex.gg R
    by_cases hi : i < items.length
    · refine .inr ⟨src.go hi, fun H' => ∃ (G : Hp) (β : BS) (acc : List V) (accD rest : List D), i + 1 + (m - 1) = items.length ∧ Ext B G1 H1 G H' ∧ BagAt B G H' β ∧ H' p = some (.lst acc) ∧ G p = none ∧ DenAll K B G acc accD ∧ accD.length ≤ i + 1 ∧ go (items.drop (i + 1)) β = some (rest, β') ∧ accD ++ rest = res, fun H' hN => ⟨m - 1, by omega, hN⟩, fun x H' hy => ?_⟩
      have hx : items[i]? = some items[i] := List.getElem?_eq_getElem hi
      obtain ⟨G', e', b', d'⟩ := src.yld R hx hy
      have R' : Rel K B G0 H0 σ env β G' H' := R.ext e' b'
      have hpH' : H' p = some (.lst acc) := e'.hh p _ hH pb
      have hpG' : G' p = none := e'.nw p _ hH hG
      have hdrop : items.drop i = items[i] :: items.drop (i + 1) := List.drop_eq_getElem_cons hi
      rw [hdrop] at hgo
      obtain ⟨o, β2, r2, s1, s2, s3⟩ := go1 _ _ _ _ hgo
      obtain ⟨e1, hb1, hrun⟩ := hstep _ _ _ _ s1
      have ex1 : Ext B G1 H1 G' H' := ex.trans e' b'.out
      refine bind_snd tg items[i] (wipeE env (own.map (·.2))) e1 hb1 (R'.wipe _) d' _ ?_
      intro σ2 hk R2
      refine ⟨?_, ?_⟩
      · refine wipe_eq ?_ fun j hj => (hk j (tgIn_ok htg hj)).1
        rw [R2.len, bindT_len tg _ _ _ hb1, wipeE_length, ← R.len]
      · refine hrun R2 _ _ (fun ho G3 H3 e3 b3 => ?_) (fun y ho v G3 H3 e3 b3 d3 => ?_)
        · subst ho
          have e4 : rest = r2.1 ∧ β' = r2.2 := by
            have := congrArg Prod.fst s3
            have h2 := congrArg Prod.snd s3
            exact ⟨this, h2⟩
          refine ⟨G3, β2, acc, accD, rest, by omega, ex1.trans e3 b3.out, b3, e3.hh p _ hpH' pb, e3.nw p _ hpH' hpG', hd.mono (e'.gg.trans e3.gg), by omega, ?_, hr⟩
          rw [s2, e4.1, e4.2]
        · subst ho
          have e4 : rest = y :: r2.1 ∧ β' = r2.2 := by
            have := congrArg Prod.fst s3
            have h2 := congrArg Prod.snd s3
            exact ⟨this, h2⟩
          have hpH3 : H3 p = some (.lst acc) := e3.hh p _ hpH' pb
          have hpG3 : G3 p = none := e3.nw p _ hpH' hpG'
          have hacc : acc.length ≤ i := by rw [hd.length]; exact hl
          refine ⟨acc, hpH3, lineL (by omega), G3, β2, acc ++ [v], accD ++ [y], r2.1, by omega, ?_, ?_, upd_same, hpG3, ?_, ?_, ?_, ?_⟩
          · have ex3 := ex1.trans e3 b3.out
            refine ⟨ex3.gg, fun a z h => ?_, fun a z h hb => ?_, ex3.nw⟩
            · rw [upd_ne (ne_of_none h hpG3)]
              exact ex3.gh a z h
            · rw [upd_ne (ne_of_none h hp)]
              exact ex3.hh a z h hb
          · obtain ⟨⟨C, k1, k2⟩, k3, k4⟩ := b3
            exact ⟨⟨C, by rw [upd_ne pb.symm]; exact k1, k2⟩, k3, k4⟩
          · exact (hd.mono (e'.gg.trans e3.gg)).app (.cons d3 .nil)
          · rw [List.length_append, List.length_singleton]
            omega
          · rw [s2, e4.2]
          · rw [← hr, e4.1, List.append_assoc]
            rfl
    · refine .inl ⟨src.stop (by omega), ?_⟩
      have hd0 : items.drop i = [] := List.drop_eq_nil_of_le (by omega)
      rw [hd0, go0] at hgo
      cases hgo
      rw [List.append_nil] at hr
      subst hr
      exact q p acc G H ex bg hp hH hG hd
theorem mapE_go (f : D → BS → Option (D × BS)) : ∀ (x : D) (xs : List D) (β : BS) (r : List D × BS), mapE f (x :: xs) β = some r → ∃ o β2 r2, (f x β).map (fun z => (some z.1, z.2)) = some (o, β2) ∧ mapE f xs β2 = some r2 ∧ r = ((match o with | some y => y :: r2.1 | none => r2.1), r2.2) := fun x xs β r h => by
  obtain ⟨a, h1, h2⟩ := some_bind (show (f x β).bind (fun r => (mapE f xs r.2).map fun q => (r.1 :: q.1, q.2)) = some r from h)
  obtain ⟨b, h3, h4⟩ := some_pair h2
  exact ⟨some a.1, a.2, b, by rw [h1]; rfl, h3, h4.symm⟩
def stepIf (t : D → BS → Option (Bool × BS)) (f : D → BS → Option (D × BS)) (x : D) (β : BS) : Option (Option D × BS) := (t x β).bind fun b => match b.1 with
  | true => (f x b.2).map fun z => (some z.1, z.2)
  | false => some (none, b.2)
theorem mapIf_go (t : D → BS → Option (Bool × BS)) (f : D → BS → Option (D × BS)) : ∀ (x : D) (xs : List D) (β : BS) (r : List D × BS), mapIf t f (x :: xs) β = some r → ∃ o β2 r2, stepIf t f x β = some (o, β2) ∧ mapIf t f xs β2 = some r2 ∧ r = ((match o with | some y => y :: r2.1 | none => r2.1), r2.2) := fun x xs β r h => by
  obtain ⟨⟨a, βa⟩, h1, h2⟩ := some_bind (show (t x β).bind (fun b => match b.1 with
    | true => (f x b.2).bind fun r => (mapIf t f xs r.2).map fun q => (r.1 :: q.1, q.2)
    | false => mapIf t f xs b.2) = some r from h)
  cases a with
  | true =>
    obtain ⟨b, h3, h4⟩ := some_bind (show (f x βa).bind (fun r => (mapIf t f xs r.2).map fun q => (r.1 :: q.1, q.2)) = some r from h2)
    obtain ⟨c, h5, h6⟩ := some_pair h4
    refine ⟨some b.1, b.2, c, ?_, h5, h6.symm⟩
    unfold stepIf
    rw [h1]
    show (f x βa).map (fun z => (some z.1, z.2)) = _
    rw [h3]
    rfl
  | false =>
    refine ⟨none, βa, r, ?_, h2, rfl⟩
    unfold stepIf
    rw [h1]
    rfl
theorem lc0_snd {elt : CE} {tg : CT} {it : CI} {own : List (Str × Nat)} (iI : SndI K M Γ it) (iE : SndP K M Γ elt) {env : Env} {β β' : BS} {r : List D × BS} {res : List D} (hc : (tgIn tg own && noOwn env own) = true) (h1 : evI M it env β = some r) (hl : r.1.length ≤ 1000000)
    (h2 : mapE (fun x β1 => (bindT tg x (wipeE env (own.map (·.2)))).bind fun e1 => evP M elt e1 β1) r.1 r.2 = some (res, β')) {B : Addr} {G0 H0 : Hp} {σ : L2.St} {G H : Hp} (R : Rel K B G0 H0 σ env β G H) (W : WX) (Q : VK) (q : QO K B G H β' res Q) : semE Γ K (.lc elt tg it own) W σ H Q := by
  obtain ⟨c1, c2⟩ := and2 hc
  refine iI env β r.1 r.2 h1 R W _ fun J G1 H1 e1 b1 hS _ => ?_
  have R1 := R.ext e1 b1
  refine lc_snd (tt := tYes) R1 hS c1 c2 hl (fun x β => ((bindT tg x (wipeE env (own.map (·.2)))).bind fun e1 => evP M elt e1 β).map fun z => (some z.1, z.2)) ⟨_, fun _ => rfl, mapE_go _, h2⟩ (fun x βx o β2 hs => ?_) fun p vs G' H' ex bg hp hH hG hd => ?_
  · obtain ⟨⟨y, βy⟩, s1, s2⟩ := some_pair hs
    obtain ⟨e1, s3, s4⟩ := some_bind s1
    cases s2
    refine ⟨e1, s3, fun R2 Qt Qe q1 q2 => ?_⟩
    show semE Γ K elt W0 _ _ Qe
    exact iE e1 βx y βy s4 R2 W0 Qe fun v G3 H3 e3 b3 d3 => q2 y rfl v G3 H3 e3 b3 d3
  · have hpn : H p = none := by
      cases e : H p with
      | none => rfl
      | some o =>
        obtain ⟨oB, hB⟩ := R.bb
        by_cases z : p = B
        · obtain ⟨oB1, hB1⟩ := R1.bb
          rw [← z, hp] at hB1
          cases hB1
        · rw [e1.hh p o e z] at hp
          cases hp
    exact q p vs G' H' (e1.trans ex bg.out) bg hpn hH hG hd
theorem lcIf_snd {elt : CE} {tg : CT} {it : CI} {c : CB} {own : List (Str × Nat)} (iI : SndI K M Γ it) (iB : SndB K M Γ c) (iE : SndP K M Γ elt) {env : Env} {β β' : BS} {r : List D × BS} {res : List D} (hc : (tgIn tg own && noOwn env own) = true) (h1 : evI M it env β = some r) (hl : r.1.length ≤ 1000000)
    (h2 : mapIf (fun x β1 => (bindT tg x (wipeE env (own.map (·.2)))).bind fun e1 => evB M c e1 β1) (fun x β1 => (bindT tg x (wipeE env (own.map (·.2)))).bind fun e1 => evP M elt e1 β1) r.1 r.2 = some (res, β')) {B : Addr} {G0 H0 : Hp} {σ : L2.St} {G H : Hp} (R : Rel K B G0 H0 σ env β G H) (W : WX) (Q : VK) (q : QO K B G H β' res Q) : semE Γ K (.lcIf elt tg it c own) W σ H Q := by
  obtain ⟨c1, c2⟩ := and2 hc
  refine iI env β r.1 r.2 h1 R W _ fun J G1 H1 e1 b1 hS _ => ?_
  have R1 := R.ext e1 b1
  refine lc_snd R1 hS c1 c2 hl (stepIf (fun x β1 => (bindT tg x (wipeE env (own.map (·.2)))).bind fun e1 => evB M c e1 β1) (fun x β1 => (bindT tg x (wipeE env (own.map (·.2)))).bind fun e1 => evP M elt e1 β1)) ⟨_, fun _ => rfl, mapIf_go _ _, h2⟩ (fun x βx o β2 hs => ?_) fun p vs G' H' ex bg hp hH hG hd => ?_
  · obtain ⟨⟨b, βb⟩, s1, s2⟩ := some_bind hs
    obtain ⟨e1, s3, s4⟩ := some_bind s1
    refine ⟨e1, s3, fun R2 Qt Qe q1 q2 => ?_⟩
    refine iB e1 βx b βb s4 R2 W0 _ fun G3 H3 e3 b3 => ?_
    cases b with
    | true =>
      obtain ⟨⟨y, βy⟩, s5, s6⟩ := some_pair (show ((bindT tg x (wipeE env (own.map (·.2)))).bind fun e1 => evP M elt e1 βb).map (fun z => (some z.1, z.2)) = some (o, β2) from s2)
      rw [s3] at s5
      have s7 : evP M elt e1 βb = some (y, βy) := s5
      cases s6
      show semE Γ K elt W0 _ _ Qe
      exact iE e1 βb y βy s7 (R2.ext e3 b3) W0 Qe fun v G4 H4 e4 b4 d4 => q2 y rfl v G4 H4 (e3.trans e4 b4.out) b4 d4
    | false =>
      cases s2
      show Qt _
      exact q1 rfl G3 H3 e3 b3
  · have hpn : H p = none := by
      cases e : H p with
      | none => rfl
      | some o =>
        obtain ⟨oB, hB⟩ := R.bb
        by_cases z : p = B
        · obtain ⟨oB1, hB1⟩ := R1.bb
          rw [← z, hp] at hB1
          cases hB1
        · rw [e1.hh p o e z] at hp
          cases hp
    exact q p vs G' H' (e1.trans ex bg.out) bg hpn hH hG hd
end
end LT

namespace LT
open PySem PySem.Spec PyProof.Rows L2
section
variable {K : PySem.W.Frag} {M : Nat → Mir} {Γ : Nat → Sp}
mutual
theorem sndP (hΓ : ∀ f vs H Q E, gam K M f vs H Q E → Γ f vs H Q E) : ∀ c : CE, SndP K M Γ c
  | .var i => fun env β d β' h B G0 H0 σ G H R W Q q => by
    simp only [evP] at h
    split at h
    · rename_i x hi
      cases h
      obtain ⟨v, h1, h2⟩ := R.d i _ hi
      exact ⟨v, h1, q v G H (Ext.refl R.sub) R.bag h2⟩
    · cases h
  | .cst c => fun env β d β' h B G0 H0 σ G H R W Q q => by
    simp only [evP] at h
    split at h
    · cases h; exact q _ G H (Ext.refl R.sub) R.bag (.int _)
    · cases h; exact q _ G H (Ext.refl R.sub) R.bag (.bl _)
    · cases h; exact q _ G H (Ext.refl R.sub) R.bag .non
    · cases h; exact q _ G H (Ext.refl R.sub) R.bag (.str _)
    · cases h
  | .tup es => fun env β d β' h B G0 H0 σ G H R W Q q => by
    simp only [evP] at h
    obtain ⟨⟨ds, β1⟩, h1, h2⟩ := some_bind h
    split at h2
    · rename_i hl
      cases h2
      refine sndA hΓ es env β ds _ h1 R W _ fun vs G' H' e b hd => ⟨lineM (by rw [hd.length]; exact hl), ?_⟩
      exact q_tup (R.ext e b) hd fun v G2 H2 e2 b2 d2 => q v G2 H2 (e.trans e2 b2.out) b2 d2
    · cases h2
  | .lst es => fun env β d β' h B G0 H0 σ G H R W Q q => by
    simp only [evP] at h
    obtain ⟨⟨ds, β1⟩, h1, h2⟩ := some_bind h
    split at h2
    · rename_i hl
      cases h2
      refine sndA hΓ es env β ds _ h1 R W _ fun vs G' H' e b hd => ⟨lineM (by rw [hd.length]; exact hl), ?_⟩
      exact q_lst (R.ext e b) hd fun v G2 H2 e2 b2 d2 => q v G2 H2 (e.trans e2 b2.out) b2 d2
    · cases h2
  | .bin op a b => fun env β d β' h B G0 H0 σ G H R W Q q => by
    simp only [evP] at h
    obtain ⟨⟨x, β1⟩, h1, h2⟩ := some_bind h
    obtain ⟨⟨y, β2⟩, h3, h4⟩ := some_bind h2
    obtain ⟨z, h5, h6⟩ := some_pair h4
    cases h6
    refine pk_snd (sndP hΓ a) h1 R W _ fun v G1 H1 e1 b1 d1 => pk_snd (sndP hΓ b) h3 (R.ext e1 b1) W _ fun w G2 H2 e2 b2 d2 => ?_
    exact bin_snd ((R.ext e1 b1).ext e2 b2) h5 (d1.mono e2.gg) d2 fun u G3 H3 e3 b3 d3 => q u G3 H3 ((e1.trans e2 b2.out).trans e3 b3.out) b3 d3
  | .neg a => fun env β d β' h B G0 H0 σ G H R W Q q => by
    simp only [evP] at h
    obtain ⟨⟨x, β1⟩, h1, h2⟩ := some_bind h
    split at h2
    · rename_i i hx
      have hx' : x = .int i := hx
      subst hx'
      cases h2
      refine sndP hΓ a env β _ _ h1 R W _ fun v G1 H1 e1 b1 d1 => ?_
      cases d1
      exact ⟨i, rfl, q _ G1 H1 e1 b1 (.int _)⟩
    · cases h2
  | .notV a => fun env β d β' h B G0 H0 σ G H R W Q q => by
    simp only [evP] at h
    obtain ⟨⟨x, β1⟩, h1, h2⟩ := some_bind h
    obtain ⟨t, h3, h4⟩ := some_pair h2
    cases h4
    refine pk_snd (sndP hΓ a) h1 R W _ fun v G1 H1 e1 b1 d1 => ⟨t, tru_snd (R.ext e1 b1) h3 d1, q _ G1 H1 e1 b1 (.bl _)⟩
  | .andV a b => fun env β d β' h B G0 H0 σ G H R W Q q => by
    simp only [evP] at h
    obtain ⟨⟨x, β1⟩, h1, h2⟩ := some_bind h
    obtain ⟨t, h3, h4⟩ := some_bind h2
    refine sndP hΓ a env β x β1 h1 R W _ fun v G1 H1 e1 b1 d1 => ⟨t, tru_snd (R.ext e1 b1) h3 (.inl d1), ?_⟩
    cases t with
    | true =>
      show semE Γ K b W σ H1 Q
      exact sndP hΓ b env β1 d β' h4 (R.ext e1 b1) W Q fun w G2 H2 e2 b2 d2 => q w G2 H2 (e1.trans e2 b2.out) b2 d2
    | false =>
      cases h4
      show Q v H1
      exact q v G1 H1 e1 b1 d1
  | .orV a b => fun env β d β' h B G0 H0 σ G H R W Q q => by
    simp only [evP] at h
    obtain ⟨⟨x, β1⟩, h1, h2⟩ := some_bind h
    obtain ⟨t, h3, h4⟩ := some_bind h2
    refine sndP hΓ a env β x β1 h1 R W _ fun v G1 H1 e1 b1 d1 => ⟨t, tru_snd (R.ext e1 b1) h3 (.inl d1), ?_⟩
    cases t with
    | true =>
      cases h4
      show Q v H1
      exact q v G1 H1 e1 b1 d1
    | false =>
      show semE Γ K b W σ H1 Q
      exact sndP hΓ b env β1 d β' h4 (R.ext e1 b1) W Q fun w G2 H2 e2 b2 d2 => q w G2 H2 (e1.trans e2 b2.out) b2 d2
  | .ite c a b => fun env β d β' h B G0 H0 σ G H R W Q q => by
    simp only [evP] at h
    obtain ⟨⟨t, β1⟩, h1, h2⟩ := some_bind h
    refine sndB hΓ c env β t β1 h1 R W _ fun G1 H1 e1 b1 => ?_
    cases t with
    | true =>
      show semE Γ K a W σ H1 Q
      exact sndP hΓ a env β1 d β' h2 (R.ext e1 b1) W Q fun w G2 H2 e2 b2 d2 => q w G2 H2 (e1.trans e2 b2.out) b2 d2
    | false =>
      show semE Γ K b W σ H1 Q
      exact sndP hΓ b env β1 d β' h2 (R.ext e1 b1) W Q fun w G2 H2 e2 b2 d2 => q w G2 H2 (e1.trans e2 b2.out) b2 d2
  | .cmp op a b => fun env β d β' h B G0 H0 σ G H R W Q q => by
    simp only [evP] at h
    obtain ⟨⟨x, β1⟩, h1, h2⟩ := some_bind h
    obtain ⟨⟨y, β2⟩, h3, h4⟩ := some_bind h2
    obtain ⟨z, h5, h6⟩ := some_pair h4
    cases h6
    refine pk_snd (sndP hΓ a) h1 R W _ fun v G1 H1 e1 b1 d1 => pk_snd (sndP hΓ b) h3 (R.ext e1 b1) W _ fun w G2 H2 e2 b2 d2 => ?_
    exact cmp_snd ((R.ext e1 b1).ext e2 b2) h5 (d1.mono e2.gg) d2 (q _ G2 H2 (e1.trans e2 b2.out) b2 (.bl _))
  | .chain o1 o2 a b c => fun env β d β' h B G0 H0 σ G H R W Q q => by
    simp only [evP] at h
    obtain ⟨⟨x, β1⟩, h1, h2⟩ := some_bind h
    obtain ⟨⟨y, β2⟩, h3, h4⟩ := some_bind h2
    obtain ⟨t, h5, h6⟩ := some_bind h4
    refine sndP hΓ a env β x β1 h1 R W _ fun v G1 H1 e1 b1 d1 => sndP hΓ b env β1 y β2 h3 (R.ext e1 b1) W _ fun w G2 H2 e2 b2 d2 => ?_
    have R2 := (R.ext e1 b1).ext e2 b2
    refine cmp_snd R2 h5 (.inl (d1.mono e2.gg)) (.inl d2) ⟨t, rfl, ?_⟩
    cases t with
    | true =>
      obtain ⟨⟨z, β3⟩, h7, h8⟩ := some_bind h6
      obtain ⟨k, h9, h10⟩ := some_pair h8
      cases h10
      show semE Γ K c W σ H2 _
      refine sndP hΓ c env β2 z β3 h7 R2 W _ fun u G3 H3 e3 b3 d3 => ?_
      exact cmp_snd (R2.ext e3 b3) h9 (.inl (d2.mono e3.gg)) (.inl d3) (q _ G3 H3 ((e1.trans e2 b2.out).trans e3 b3.out) b3 (.bl _))
    | false =>
      cases h6
      show Q _ H2
      exact q _ G2 H2 (e1.trans e2 b2.out) b2 (.bl _)
  | .call f es => fun env β d β' h B G0 H0 σ G H R W Q q => by
    simp only [evP] at h
    obtain ⟨⟨ds, β1⟩, h1, h2⟩ := some_bind h
    refine sndA hΓ es env β ds β1 h1 R W _ fun vs G' H' e b hd => ?_
    refine hΓ f _ _ _ _ ⟨B, G', β1, ds, d, β', h2, e.gh, b, ?_, fun v G2 H2 e2 b2 d2 => q v G2 H2 (e.trans e2 b2.out) b2 d2⟩
    rw [List.append_nil]
    exact hd
  | .blt b es => fun env β d β' h B G0 H0 σ G H R W Q q => by
    simp only [evP] at h
    obtain ⟨⟨ds, β1⟩, h1, h2⟩ := some_bind h
    obtain ⟨z, h3, h4⟩ := some_pair h2
    cases h4
    refine sndV hΓ es env β ds β1 h1 R W _ fun vs G' H' e bb hd => ?_
    exact blt_snd (R.ext e bb) h3 hd fun v G2 H2 e2 b2 d2 => q v G2 H2 (e.trans e2 b2.out) b2 d2
  | .ix a b => fun env β d β' h B G0 H0 σ G H R W Q q => by
    simp only [evP] at h
    obtain ⟨⟨x, β1⟩, h1, h2⟩ := some_bind h
    obtain ⟨⟨y, β2⟩, h3, h4⟩ := some_bind h2
    obtain ⟨z, h5, h6⟩ := some_pair h4
    cases h6
    refine pk_snd (sndP hΓ a) h1 R W _ fun v G1 H1 e1 b1 d1 => sndP hΓ b env β1 y β2 h3 (R.ext e1 b1) W _ fun w G2 H2 e2 b2 d2 => ?_
    exact ix_snd ((R.ext e1 b1).ext e2 b2) h5 (d1.mono e2.gg) d2 fun u d3 => q u G2 H2 (e1.trans e2 b2.out) b2 d3
  | .slA a => fun env β d β' h B G0 H0 σ G H R W Q q => by
    simp only [evP] at h
    obtain ⟨⟨x, β1⟩, h1, h2⟩ := some_bind h
    obtain ⟨z, h3, h4⟩ := some_pair h2
    cases h4
    refine pk_snd (sndP hΓ a) h1 R W _ fun v G1 H1 e1 b1 d1 => ?_
    exact sl_snd (R.ext e1 b1) h3 d1 fun u G2 H2 e2 b2 d2 => q u G2 H2 (e1.trans e2 b2.out) b2 d2
  | .slF a lo => fun env β d β' h B G0 H0 σ G H R W Q q => by
    simp only [evP] at h
    obtain ⟨⟨x, β1⟩, h1, h2⟩ := some_bind h
    obtain ⟨⟨y, β2⟩, h3, h4⟩ := some_bind h2
    obtain ⟨i, h5, h6⟩ := some_bind h4
    obtain ⟨z, h7, h8⟩ := some_pair h6
    cases h8
    refine pk_snd (sndP hΓ a) h1 R W _ fun v G1 H1 e1 b1 d1 => sndP hΓ lo env β1 y β2 h3 (R.ext e1 b1) W _ fun w G2 H2 e2 b2 d2 => ?_
    have hy : y = .int i := by
      cases y <;> first | (cases h5; done) | (cases h5; rfl)
    subst hy
    cases d2
    exact ⟨i, rfl, sl_snd ((R.ext e1 b1).ext e2 b2) h7 (d1.mono e2.gg) fun u G3 H3 e3 b3 d3 => q u G3 H3 ((e1.trans e2 b2.out).trans e3 b3.out) b3 d3⟩
  | .slT a hi => fun env β d β' h B G0 H0 σ G H R W Q q => by
    simp only [evP] at h
    obtain ⟨⟨x, β1⟩, h1, h2⟩ := some_bind h
    obtain ⟨⟨y, β2⟩, h3, h4⟩ := some_bind h2
    obtain ⟨i, h5, h6⟩ := some_bind h4
    obtain ⟨z, h7, h8⟩ := some_pair h6
    cases h8
    refine pk_snd (sndP hΓ a) h1 R W _ fun v G1 H1 e1 b1 d1 => sndP hΓ hi env β1 y β2 h3 (R.ext e1 b1) W _ fun w G2 H2 e2 b2 d2 => ?_
    have hy : y = .int i := by
      cases y <;> first | (cases h5; done) | (cases h5; rfl)
    subst hy
    cases d2
    exact ⟨i, rfl, sl_snd ((R.ext e1 b1).ext e2 b2) h7 (d1.mono e2.gg) fun u G3 H3 e3 b3 d3 => q u G3 H3 ((e1.trans e2 b2.out).trans e3 b3.out) b3 d3⟩
  | .slFT a lo hi => fun env β d β' h B G0 H0 σ G H R W Q q => by
    simp only [evP] at h
    obtain ⟨⟨x, β1⟩, h1, h2⟩ := some_bind h
    obtain ⟨⟨y, β2⟩, h3, h4⟩ := some_bind h2
    obtain ⟨i, h5, h6⟩ := some_bind h4
    obtain ⟨⟨y2, β3⟩, h7, h8⟩ := some_bind h6
    obtain ⟨j, h9, h10⟩ := some_bind h8
    obtain ⟨z, h11, h12⟩ := some_pair h10
    cases h12
    have hy : y = .int i := by
      cases y <;> first | (cases h5; done) | (cases h5; rfl)
    have hy2 : y2 = .int j := by
      cases y2 <;> first | (cases h9; done) | (cases h9; rfl)
    subst hy hy2
    refine pk_snd (sndP hΓ a) h1 R W _ fun v G1 H1 e1 b1 d1 => sndP hΓ lo env β1 _ β2 h3 (R.ext e1 b1) W _ fun w G2 H2 e2 b2 d2 => ?_
    cases d2
    refine ⟨i, rfl, sndP hΓ hi env β2 _ β3 h7 ((R.ext e1 b1).ext e2 b2) W _ fun w3 G3 H3 e3 b3 d3 => ?_⟩
    cases d3
    exact ⟨j, rfl, sl_snd (((R.ext e1 b1).ext e2 b2).ext e3 b3) h11 ((d1.mono e2.gg).mono e3.gg) fun u G4 H4 e4 b4 d4 => q u G4 H4 (((e1.trans e2 b2.out).trans e3 b3.out).trans e4 b4.out) b4 d4⟩
  | .rev a => fun env β d β' h B G0 H0 σ G H R W Q q => by
    simp only [evP] at h
    obtain ⟨⟨x, β1⟩, h1, h2⟩ := some_bind h
    split at h2
    · rename_i xs hx
      have hx' : x = .lst xs := hx
      subst hx'
      cases h2
      refine pk_snd (sndP hΓ a) h1 R W _ fun v G1 H1 e1 b1 d1 => ?_
      obtain ⟨p, vs, rfl, g1, g2⟩ := d1.lst (R.ext e1 b1)
      exact ⟨p, vs, rfl, SqL.of g1, q_lst (R.ext e1 b1) g2.rev fun u G2 H2 e2 b2 d2 => q u G2 H2 (e1.trans e2 b2.out) b2 d2⟩
    · cases h2
  | .bm _ _ _ => fun env β d β' h => by simp [evP] at h
  | .lc elt tg it own => fun env β d β' h B G0 H0 σ G H R W Q q => by
    simp only [evP] at h
    split at h
    · rename_i hc
      obtain ⟨r, h1, h2⟩ := some_bind h
      split at h2
      · rename_i hl
        obtain ⟨⟨res, β1⟩, h3, h4⟩ := some_pair h2
        cases h4
        exact lc0_snd (sndI hΓ it) (sndP hΓ elt) hc h1 hl h3 R W Q (QO.of R.bb R.sub q)
      · cases h2
    · cases h
  | .lcIf elt tg it c own => fun env β d β' h B G0 H0 σ G H R W Q q => by
    simp only [evP] at h
    split at h
    · rename_i hc
      obtain ⟨r, h1, h2⟩ := some_bind h
      split at h2
      · rename_i hl
        obtain ⟨⟨res, β1⟩, h3, h4⟩ := some_pair h2
        cases h4
        exact lcIf_snd (sndI hΓ it) (sndB hΓ c) (sndP hΓ elt) hc h1 hl h3 R W Q (QO.of R.bb R.sub q)
      · cases h2
    · cases h
theorem sndA (hΓ : ∀ f vs H Q E, gam K M f vs H Q E → Γ f vs H Q E) : ∀ cs : List CE, SndA K M Γ cs
  | [] => fun env β ds β' h B G0 H0 σ G H R W Q q => by
    simp only [evA] at h
    cases h
    exact q [] G H (Ext.refl R.sub) R.bag .nil
  | c :: cs => fun env β ds β' h B G0 H0 σ G H R W Q q => by
    simp only [evA] at h
    obtain ⟨⟨x, β1⟩, h1, h2⟩ := some_bind h
    obtain ⟨⟨ys, β2⟩, h3, h4⟩ := some_pair h2
    cases h4
    refine sndP hΓ c env β x β1 h1 R W _ fun v G1 H1 e1 b1 d1 => sndA hΓ cs env β1 ys β2 h3 (R.ext e1 b1) W _ fun vs G2 H2 e2 b2 d2 => ?_
    exact q (v :: vs) G2 H2 (e1.trans e2 b2.out) b2 (.cons (d1.mono e2.gg) d2)
theorem sndV (hΓ : ∀ f vs H Q E, gam K M f vs H Q E → Γ f vs H Q E) : ∀ cs : List CE, SndV K M Γ cs
  | [] => fun env β ds β' h B G0 H0 σ G H R W Q q => by
    simp only [evV] at h
    cases h
    exact q [] G H (Ext.refl R.sub) R.bag .nil
  | c :: cs => fun env β ds β' h B G0 H0 σ G H R W Q q => by
    simp only [evV] at h
    obtain ⟨⟨x, β1⟩, h1, h2⟩ := some_bind h
    obtain ⟨⟨ys, β2⟩, h3, h4⟩ := some_pair h2
    cases h4
    refine pk_snd (sndP hΓ c) h1 R W _ fun v G1 H1 e1 b1 d1 => sndV hΓ cs env β1 ys β2 h3 (R.ext e1 b1) W _ fun vs G2 H2 e2 b2 d2 => ?_
    exact q (v :: vs) G2 H2 (e1.trans e2 b2.out) b2 (.cons (d1.mono e2.gg) d2)
theorem sndB (hΓ : ∀ f vs H Q E, gam K M f vs H Q E → Γ f vs H Q E) : ∀ c : CB, SndB K M Γ c
  | .not a => fun env β d β' h B G0 H0 σ G H R W Q q => by
    simp only [evB] at h
    obtain ⟨⟨t, β1⟩, h1, h2⟩ := some_pair h
    cases h2
    exact sndB hΓ a env β t β1 h1 R W _ fun G1 H1 e1 b1 => q G1 H1 e1 b1
  | .and a b => fun env β d β' h B G0 H0 σ G H R W Q q => by
    simp only [evB] at h
    obtain ⟨⟨t, β1⟩, h1, h2⟩ := some_bind h
    refine sndB hΓ a env β t β1 h1 R W _ fun G1 H1 e1 b1 => ?_
    cases t with
    | true =>
      show semB Γ K b W σ H1 Q
      exact sndB hΓ b env β1 d β' h2 (R.ext e1 b1) W Q fun G2 H2 e2 b2 => q G2 H2 (e1.trans e2 b2.out) b2
    | false =>
      cases h2
      exact q G1 H1 e1 b1
  | .or a b => fun env β d β' h B G0 H0 σ G H R W Q q => by
    simp only [evB] at h
    obtain ⟨⟨t, β1⟩, h1, h2⟩ := some_bind h
    refine sndB hΓ a env β t β1 h1 R W _ fun G1 H1 e1 b1 => ?_
    cases t with
    | true =>
      cases h2
      exact q G1 H1 e1 b1
    | false =>
      show semB Γ K b W σ H1 Q
      exact sndB hΓ b env β1 d β' h2 (R.ext e1 b1) W Q fun G2 H2 e2 b2 => q G2 H2 (e1.trans e2 b2.out) b2
  | .cmp op a b => fun env β d β' h B G0 H0 σ G H R W Q q => by
    simp only [evB] at h
    obtain ⟨⟨x, β1⟩, h1, h2⟩ := some_bind h
    obtain ⟨⟨y, β2⟩, h3, h4⟩ := some_bind h2
    obtain ⟨z, h5, h6⟩ := some_pair h4
    cases h6
    refine pk_snd (sndP hΓ a) h1 R W _ fun v G1 H1 e1 b1 d1 => pk_snd (sndP hΓ b) h3 (R.ext e1 b1) W _ fun w G2 H2 e2 b2 d2 => ?_
    exact cmp_snd ((R.ext e1 b1).ext e2 b2) h5 (d1.mono e2.gg) d2 ⟨_, rfl, q G2 H2 (e1.trans e2 b2.out) b2⟩
  | .chain o1 o2 a b c => fun env β d β' h B G0 H0 σ G H R W Q q => by
    simp only [evB] at h
    obtain ⟨⟨x, β1⟩, h1, h2⟩ := some_bind h
    obtain ⟨⟨y, β2⟩, h3, h4⟩ := some_bind h2
    obtain ⟨t, h5, h6⟩ := some_bind h4
    refine sndP hΓ a env β x β1 h1 R W _ fun v G1 H1 e1 b1 d1 => sndP hΓ b env β1 y β2 h3 (R.ext e1 b1) W _ fun w G2 H2 e2 b2 d2 => ?_
    have R2 := (R.ext e1 b1).ext e2 b2
    refine cmp_snd R2 h5 (.inl (d1.mono e2.gg)) (.inl d2) ⟨t, rfl, ?_⟩
    cases t with
    | true =>
      obtain ⟨⟨z, β3⟩, h7, h8⟩ := some_bind h6
      obtain ⟨k, h9, h10⟩ := some_pair h8
      cases h10
      show semE Γ K c W σ H2 _
      refine sndP hΓ c env β2 z β3 h7 R2 W _ fun u G3 H3 e3 b3 d3 => ?_
      exact cmp_snd (R2.ext e3 b3) h9 (.inl (d2.mono e3.gg)) (.inl d3) ⟨_, rfl, q G3 H3 ((e1.trans e2 b2.out).trans e3 b3.out) b3⟩
    | false =>
      cases h6
      exact ⟨_, rfl, q G2 H2 (e1.trans e2 b2.out) b2⟩
  | .tru a => fun env β d β' h B G0 H0 σ G H R W Q q => by
    simp only [evB] at h
    obtain ⟨⟨x, β1⟩, h1, h2⟩ := some_bind h
    obtain ⟨t, h3, h4⟩ := some_pair h2
    cases h4
    exact pk_snd (sndP hΓ a) h1 R W _ fun v G1 H1 e1 b1 d1 => ⟨d, tru_snd (R.ext e1 b1) h3 d1, q G1 H1 e1 b1⟩
theorem sndI (hΓ : ∀ f vs H Q E, gam K M f vs H Q E → Γ f vs H Q E) : ∀ c : CI, SndI K M Γ c
  | .seq a => fun env β ds β' h B G0 H0 σ G H R W Rk q => by
    simp only [evI] at h
    obtain ⟨⟨x, β1⟩, h1, h2⟩ := some_bind h
    split at h2
    · rename_i hx
      cases h2
      have hx' : x = .lst ds := hx
      subst hx'
      refine .inl (pk_sndN (sndP hΓ a) h1 R W _ fun v G1 H1 e1 b1 d1 dn => ?_)
      obtain ⟨p, vs, rfl, g1, g2⟩ := d1.lst (R.ext e1 b1)
      refine ⟨p, rfl, ⟨vs, SqL.of g1⟩, q (Itl K p) G1 H1 e1 b1 (fun β2 G2 H2 s2 R2 => ?_) (fun hn G2 H2 s2 s3 => ?_)⟩
      · obtain ⟨p', ws, e, k1, k2⟩ := (d1.mono s2).lst R2
        cases e
        exact .lst k1 k2
      · cases dn (Option.isNone_iff_eq_none.mp hn) with
        | lst k1 k2 => exact .lst (s3 _ _ (s2 _ _ k1)) (k2.mono s2)
    · rename_i hx
      cases h2
      have hx' : x = .tup ds := hx
      subst hx'
      refine .inr (.inl (pk_snd (sndP hΓ a) h1 R W _ fun v G1 H1 e1 b1 d1 => ?_))
      cases d1.den (by intro _ z; cases z) with
      | tup s t =>
        exact ⟨_, rfl, ⟨_, sub_t e1.gh s⟩, q (Itt K _) G1 H1 e1 b1 (fun β2 G2 H2 s2 R2 => .tup (sub_t (s2.trans R2.sub) s) (t.mono s2)) (fun hn G2 H2 s2 s3 => .tup (sub_t (s2.trans s3) s) (t.mono s2))⟩
    · cases h2
  | .rng1 a => fun env β ds β' h B G0 H0 σ G H R W Rk q => by
    simp only [evI] at h
    obtain ⟨⟨x, β1⟩, h1, h2⟩ := some_bind h
    split at h2
    · rename_i j hx
      have hx' : x = .int j := hx
      subst hx'
      split at h2
      · rename_i hj
        cases h2
        refine sndP hΓ a env β _ _ h1 R W _ fun v G1 H1 e1 b1 d1 => ?_
        cases d1
        exact ⟨j, rfl, hj.1, hj.2, q _ G1 H1 e1 b1 (fun _ _ _ _ _ => .rng 0 _) (fun _ _ _ _ _ => .rng 0 _)⟩
      · cases h2
    · cases h2
  | .rng2 a b => fun env β ds β' h B G0 H0 σ G H R W Rk q => by
    simp only [evI] at h
    obtain ⟨⟨x, β1⟩, h1, h2⟩ := some_bind h
    obtain ⟨⟨y, β2⟩, h3, h4⟩ := some_bind h2
    split at h4
    · rename_i i j hx hy
      have hx' : x = .int i := hx
      have hy' : y = .int j := hy
      subst hx' hy'
      split at h4
      · rename_i hj
        cases h4
        refine sndP hΓ a env β _ _ h1 R W _ fun v G1 H1 e1 b1 d1 => sndP hΓ b env β1 _ _ h3 (R.ext e1 b1) W _ fun w G2 H2 e2 b2 d2 => ?_
        cases d1
        cases d2
        exact ⟨i, j, rfl, hj, q _ G2 H2 (e1.trans e2 b2.out) b2 (fun _ _ _ _ _ => .rng i _) (fun _ _ _ _ _ => .rng i _)⟩
      · cases h4
    · cases h4
  | .enum a => fun env β ds β' h B G0 H0 σ G H R W Rk q => by
    simp only [evI] at h
    obtain ⟨⟨x, β1⟩, h1, h2⟩ := some_bind h
    split at h2
    · rename_i xs hx
      have hx' : x = .lst xs := hx
      subst hx'
      cases h2
      refine pk_sndN (sndP hΓ a) h1 R W _ fun v G1 H1 e1 b1 d1 dn => ?_
      obtain ⟨p, vs, rfl, g1, g2⟩ := d1.lst (R.ext e1 b1)
      refine ⟨p, vs, rfl, SqL.of g1, q (Ite K p) G1 H1 e1 b1 (fun β2 G2 H2 s2 R2 => ?_) (fun hn G2 H2 s2 s3 => ?_)⟩
      · obtain ⟨p', ws, e, k1, k2⟩ := (d1.mono s2).lst R2
        cases e
        exact .enum k1 k2
      · cases dn (Option.isNone_iff_eq_none.mp hn) with
        | lst k1 k2 => exact .enum (s3 _ _ (s2 _ _ k1)) (k2.mono s2)
    · cases h2
  | .zip a b => fun env β ds β' h B G0 H0 σ G H R W Rk q => by
    simp only [evI] at h
    obtain ⟨⟨x, β1⟩, h1, h2⟩ := some_bind h
    obtain ⟨⟨y, β2⟩, h3, h4⟩ := some_bind h2
    split at h4
    · rename_i xs ys hx hy
      have hx' : x = .lst xs := hx
      have hy' : y = .lst ys := hy
      subst hx' hy'
      cases h4
      refine pk_sndN (sndP hΓ a) h1 R W _ fun v G1 H1 e1 b1 d1 dn => pk_sndN (sndP hΓ b) h3 (R.ext e1 b1) W _ fun w G2 H2 e2 b2 d2 dn2 => ?_
      have R2 := (R.ext e1 b1).ext e2 b2
      obtain ⟨p, vs, rfl, g1, g2⟩ := (d1.mono e2.gg).lst R2
      obtain ⟨p2, ws, rfl, g3, g4⟩ := d2.lst R2
      refine ⟨p, p2, vs, ws, rfl, SqL.of g1, SqL.of g3, q (Itz K p p2) G2 H2 (e1.trans e2 b2.out) b2 (fun β3 G3 H3 s3 R3 => ?_) (fun hn G3 H3 s3 s4 => ?_)⟩
      · obtain ⟨p', us, e, k1, k2⟩ := ((d1.mono e2.gg).mono s3).lst R3
        obtain ⟨p'', us2, e', k3, k4⟩ := (d2.mono s3).lst R3
        cases e
        cases e'
        exact .zip k1 k2 k3 k4
      · obtain ⟨n1, n2⟩ := and2 (show ((peek env a).isNone && (peek env b).isNone) = true from hn)
        cases dn (Option.isNone_iff_eq_none.mp n1) with
        | lst k1 k2 =>
          cases dn2 (Option.isNone_iff_eq_none.mp n2) with
          | lst k3 k4 => exact .zip (s4 _ _ (s3 _ _ (e2.gg _ _ k1))) (k2.mono (e2.gg.trans s3)) (s4 _ _ (s3 _ _ k3)) (k4.mono s3)
    · cases h4
end
end
end LT

namespace LT
open PySem PySem.Spec PyProof.Rows L2
section
variable {K : PySem.W.Frag} {M : Nat → Mir} {Γ : Nat → Sp}
theorem hnone {B : Addr} {G H G1 H1 : Hp} {β : BS} (e : Ext B G H G1 H1) (b : BagAt B G1 H1 β) (hB : ∃ o, H B = some o) {p : Addr} (h : H1 p = none) : H p = none := by
  cases q : H p with
  | none => rfl
  | some o =>
    by_cases z : p = B
    · obtain ⟨C, k, _⟩ := b.at_
      rw [← z, h] at k
      cases k
    · rw [e.hh p o q z] at h
      cases h
theorem gnone {G H : Hp} (s : Sub G H) {p : Addr} (h : H p = none) : G p = none := by
  cases q : G p with
  | none => rfl
  | some o =>
    rw [s p o q] at h
    cases h
theorem q_own {B : Addr} {G0 H0 G H G1 H1 : Hp} {σ : L2.St} {env : Env} {β β' : BS} {xs : List D} {vs : List V} {Q : VK} (R : Rel K B G0 H0 σ env β G H) (e : Ext B G H G1 H1) (b : BagAt B G1 H1 β') (hd : DenAll K B G1 vs xs) (q : QO K B G H β' xs Q) : ∀ p, H1 p = none → Q (.ref p) (upd H1 p (.lst vs)) := fun p hp =>
  q p vs G1 _ (e.trans (Ext.newU e.gh hp) b.out) (b.newU hp) (hnone e b R.bb hp) upd_same (gnone e.gh hp) hd
theorem sndF (hΓ : ∀ f vs H Q E, gam K M f vs H Q E → Γ f vs H Q E) (c : CE) {env : Env} {β : BS} {xs : List D} {β' : BS} (h : evF M c env β = some (xs, β')) {B : Addr} {G0 H0 : Hp} {σ : L2.St} {G H : Hp} (R : Rel K B G0 H0 σ env β G H) (W : WX) (Q : VK) (q : QO K B G H β' xs Q) : semE Γ K c W σ H Q := by
  unfold evF at h
  split at h
  · obtain ⟨⟨ds, β1⟩, h1, h2⟩ := some_bind h
    split at h2
    · rename_i hl
      cases h2
      exact sndA hΓ _ _ β xs _ h1 R W _ fun vs G' H' e b hd => ⟨lineM (by rw [hd.length]; exact hl), q_own R e b hd q⟩
    · cases h2
  · obtain ⟨⟨x, β1⟩, h1, h2⟩ := some_bind h
    split at h2
    · rename_i hx
      cases h2
      have hx' : x = .lst xs := hx
      subst hx'
      refine pk_snd (sndP hΓ _) h1 R W _ fun v G1 H1 e1 b1 d1 => ?_
      obtain ⟨p, vs, rfl, g1, g2⟩ := d1.lst (R.ext e1 b1)
      exact ⟨p, vs, rfl, .inl (SqL.of g1), q_own R e1 b1 g2 q⟩
    · rename_i hx
      cases h2
      have hx' : x = .tup xs := hx
      subst hx'
      refine pk_snd (sndP hΓ _) h1 R W _ fun v G1 H1 e1 b1 d1 => ?_
      cases d1.den (by intro _ z; cases z) with
      | tup s t => exact ⟨_, _, rfl, .inr (sub_t e1.gh s), q_own R e1 b1 t q⟩
    · cases h2
  · obtain ⟨⟨x, β1⟩, h1, h2⟩ := some_bind h
    obtain ⟨⟨y, β2⟩, h3, h4⟩ := some_bind h2
    split at h4
    · rename_i ws zs hx hy
      have hx' : x = .lst ws := hx
      have hy' : y = .lst zs := hy
      subst hx' hy'
      split at h4
      · rename_i hl
        cases h4
        refine pk_snd (sndP hΓ _) h1 R W _ fun v G1 H1 e1 b1 d1 => pk_snd (sndP hΓ _) h3 (R.ext e1 b1) W _ fun w G2 H2 e2 b2 d2 => ?_
        have R2 := (R.ext e1 b1).ext e2 b2
        obtain ⟨p, vs, rfl, g1, g2⟩ := (d1.mono e2.gg).lst R2
        obtain ⟨p2, vs2, rfl, g3, g4⟩ := d2.lst R2
        exact .inr (.inl ⟨p, p2, vs, vs2, rfl, rfl, g1, g3, lineM (by rw [g2.length, g4.length]; exact hl), q_own R (e1.trans e2 b2.out) b2 (g2.app g4) q⟩)
      · cases h4
    · cases h4
  · split at h
    · rename_i hc
      obtain ⟨r, h1, h2⟩ := some_bind h
      split at h2
      · rename_i hl
        exact lc0_snd (sndI hΓ _) (sndP hΓ _) hc h1 hl h2 R W Q q
      · cases h2
    · cases h
  · split at h
    · rename_i hc
      obtain ⟨r, h1, h2⟩ := some_bind h
      split at h2
      · rename_i hl
        exact lcIf_snd (sndI hΓ _) (sndB hΓ _) (sndP hΓ _) hc h1 hl h2 R W Q q
      · cases h2
    · cases h
  · cases h
theorem Rel.extO {B : Addr} {G0 H0 G H G' H' : Hp} {σ : L2.St} {env : Env} {β β' : BS} (R : Rel K B G0 H0 σ env β G H) (e : Ext B G H G' H') (b : BagAt B G' H' β') : Rel K B G0 H0 σ env β' G' H' := R.ext e b
theorem sndO (hΓ : ∀ f vs H Q E, gam K M f vs H Q E → Γ f vs H Q E) (o : Bool) (c : CE) {env : Env} {β : BS} {s : Sl} {β' : BS} (h : evO M o c env β = some (s, β')) {B : Addr} {G0 H0 : Hp} {σ : L2.St} {G H : Hp} (R : Rel K B G0 H0 σ env β G H) (W : WX) (Q : VK)
    (q : ∀ v G' H', Ext B G H G' H' → BagAt B G' H' β' → (∀ β2 G2 H2 σ2 env2 i, Ext B G' H' G2 H2 → Rel K B G0 H0 σ2 env2 β2 G2 H2 → (∀ (j : Nat) (ys : List D), env2[j]? = some (some (.own ys)) → σ2[j]? = some (some v) → (∃ p, v = .ref p ∧ H' p ≠ none ∧ H p = none) → j = i) → Rel K B G0 H0 (σ2.set i (some v)) (env2.set i (some s)) β2 G2 H2) → (∃ x, s = .d x) ∨ (∃ p, v = .ref p ∧ H p = none ∧ H' p ≠ none) → Q v H') : semE Γ K c W σ H Q := by
  cases o with
  | true =>
    obtain ⟨⟨xs, β1⟩, h1, h2⟩ := some_pair (show (evF M c env β).map (fun r => (Sl.own r.1, r.2)) = some (s, β') from h)
    cases h2
    refine sndF hΓ c h1 R W Q fun p vs G' H' e b hp hH hG hd => q _ G' H' e b (fun β2 G2 H2 σ2 env2 i e2 R2 hno => ?_) (.inr ⟨p, rfl, hp, (by rw [hH]; intro z; cases z)⟩)
    have pb : p ≠ B := fun z => by
      obtain ⟨oB, hB⟩ := R.bb
      rw [z, hB] at hp
      cases hp
    exact R2.setO (e2.hh p _ hH pb) (e2.nw p _ hH hG) (R.h0none hp) (fun j ys hj hys z => hj (hno j ys hys z ⟨p, rfl, (by rw [hH]; intro z; cases z), hp⟩)) (hd.mono e2.gg)
  | false =>
    obtain ⟨⟨x, β1⟩, h1, h2⟩ := some_pair (show (evP M c env β).map (fun r => (Sl.d r.1, r.2)) = some (s, β') from h)
    cases h2
    exact sndP hΓ c env β x β1 h1 R W Q fun v G' H' e b hd => q v G' H' e b (fun β2 G2 H2 σ2 env2 i e2 R2 _ => R2.setD (hd.mono e2.gg)) (.inl ⟨x, rfl⟩)
theorem own_old {B : Addr} {G0 H0 : Hp} {σ : L2.St} {env : Env} {β : BS} {G H : Hp} (R : Rel K B G0 H0 σ env β G H) {j : Nat} {ys : List D} {p : Addr} (h : env[j]? = some (some (.own ys))) (hs : σ[j]? = some (some (.ref p))) : H p ≠ none := by
  obtain ⟨p', vs, k1, k2, _⟩ := R.o j ys h
  rw [hs] at k1
  cases k1
  rw [k2]
  intro z
  cases z
structure Kont (K : PySem.W.Frag) (B : Addr) (G0 H0 G : Hp) (o : Out) (Dn : Ends) : Prop where
  nx : ∀ e2 β2, o = .nx e2 β2 → ∀ σ' G' H', Sub G G' → Rel K B G0 H0 σ' e2 β2 G' H' → Dn.nx σ' H'
  rt : ∀ x β2, o = .ret x β2 → ∀ v G' H', Ext B G0 H0 G' H' → BagAt B G' H' β2 → Den K B G' v x → Dn.rt v H'
theorem Rel.toExt {B : Addr} {G0 H0 : Hp} {σ : L2.St} {env : Env} {β : BS} {G H : Hp} (R : Rel K B G0 H0 σ env β G H) : Ext B G0 H0 G H := ⟨R.g0, R.sub, R.h0, R.n0⟩
def SndS (K : PySem.W.Frag) (M : Nat → Mir) (Γ : Nat → Sp) (c : CS) : Prop := ∀ (env : Env) (β : BS) (o : Out), evS M c env β = some o → ∀ {B : Addr} {G0 H0 : Hp} {σ : L2.St} {G H : Hp}, Rel K B G0 H0 σ env β G H → ∀ (W : WX) (Dn : Ends), Kont K B G0 H0 G o Dn → semS Γ K c W Dn σ H
def SndSs (K : PySem.W.Frag) (M : Nat → Mir) (Γ : Nat → Sp) (cs : List CS) : Prop := ∀ (env : Env) (β : BS) (o : Out), evSs M cs env β = some o → ∀ {B : Addr} {G0 H0 : Hp} {σ : L2.St} {G H : Hp}, Rel K B G0 H0 σ env β G H → ∀ (W : WX) (Dn : Ends), Kont K B G0 H0 G o Dn → semSs Γ K cs W Dn σ H
theorem for_snd {t : CT} {it : CI} {body : List CS} (iI : SndI K M Γ it) (ib : SndSs K M Γ body) {env : Env} {β : BS} {o : Out} {r : List D × BS} (hn : noPk env it = true) (h1 : evI M it env β = some r) (h2 : forE t (fun e1 β1 => evSs M body e1 β1) r.1 env r.2 = some o) {B : Addr} {G0 H0 : Hp} {σ : L2.St} {G H : Hp} (R : Rel K B G0 H0 σ env β G H) (W : WX) (Dn : Ends) (q : Kont K B G0 H0 G o Dn) : semS Γ K (.forS t it body) W Dn σ H := by
  refine iI env β r.1 r.2 h1 R W _ fun J G1 H1 e1 b1 _ hS => ?_
  have R1 := R.ext e1 b1
  refine ⟨fun i m σ H => ∃ (G : Hp) (env : Env) (β : BS), i + m = r.1.length ∧ Sub G1 G ∧ Rel K B G0 H0 σ env β G H ∧ forE t (fun e1 β1 => evSs M body e1 β1) (r.1.drop i) env β = some o, ⟨r.1.length, G1, env, r.2, by omega, Sub.refl G1, R1, h2⟩, fun i m σ2 H2 hW => ?_⟩
  obtain ⟨G2, env2, β2, hm, s2, R2, hf⟩ := hW
  have src := hS hn G2 H2 s2 R2.sub
  by_cases hi : i < r.1.length
  · refine .inr ⟨src.go hi, fun σ' H' => ∃ (G : Hp) (env : Env) (β : BS), i + 1 + (m - 1) = r.1.length ∧ Sub G1 G ∧ Rel K B G0 H0 σ' env β G H' ∧ forE t (fun e1 β1 => evSs M body e1 β1) (r.1.drop (i + 1)) env β = some o, fun σ' H' hN => ⟨m - 1, by omega, hN⟩, fun x H' hy => ?_⟩
    have hx : r.1[i]? = some r.1[i] := List.getElem?_eq_getElem hi
    obtain ⟨G', e', b', d'⟩ := src.yld R2 hx hy
    have hdrop : r.1.drop i = r.1[i] :: r.1.drop (i + 1) := List.drop_eq_getElem_cons hi
    rw [hdrop] at hf
    obtain ⟨e3, k1, k2⟩ := some_bind (show (bindT t r.1[i] env2).bind (fun e1 => (evSs M body e1 β2).bind fun o => match o with
      | .nx e2 β2 => forE t (fun e1 β1 => evSs M body e1 β1) (r.1.drop (i + 1)) e2 β2
      | .ret y β2 => some (.ret y β2)) = some o from hf)
    obtain ⟨o1, k3, k4⟩ := some_bind k2
    refine bind_snd t r.1[i] env2 e3 k1 (R2.ext e' b') d' _ fun σ3 _ R3 => ?_
    refine ib e3 β2 o1 k3 R3 W _ ⟨fun e4 β4 ho σ4 G4 H4 s4 R4 => ?_, fun y β4 ho v G4 H4 e4 b4 d4 => ?_⟩
    · subst ho
      exact ⟨G4, e4, β4, by omega, s2.trans (e'.gg.trans s4), R4, k4⟩
    · subst ho
      cases k4
      exact q.rt y β4 rfl v G4 H4 e4 b4 d4
  · refine .inl ⟨src.stop (by omega), ?_⟩
    rw [List.drop_eq_nil_of_le (by omega)] at hf
    cases hf
    exact q.nx env2 β2 rfl σ2 G2 H2 (e1.gg.trans s2) R2
end
end LT

namespace LT
open PySem PySem.Spec PyProof.Rows L2
section
variable {K : PySem.W.Frag} {M : Nat → Mir} {Γ : Nat → Sp}
def OwnsAt (σ : L2.St) (env : Env) (p : Addr) : Prop := ∃ (j : Nat) (ys : List D), env[j]? = some (some (.own ys)) ∧ σ[j]? = some (some (.ref p))
theorem ownsAt_set {σ : L2.St} {env : Env} {p : Addr} {i : Nat} {v : V} {s : Sl} (h : OwnsAt (σ.set i (some v)) (env.set i (some s)) p) : OwnsAt σ env p ∨ (v = .ref p ∧ ∃ ys, s = .own ys) := by
  obtain ⟨j, ys, h1, h2⟩ := h
  rw [get_set] at h1 h2
  by_cases e : i = j
  · rw [if_pos e] at h1 h2
    right
    by_cases l : i < env.length
    · rw [if_pos l] at h1
      by_cases l2 : i < σ.length
      · rw [if_pos l2] at h2
        cases h1
        cases h2
        exact ⟨rfl, ys, rfl⟩
      · rw [if_neg l2] at h2
        cases h2
    · rw [if_neg l] at h1
      cases h1
  · rw [if_neg e] at h1 h2
    exact .inl ⟨j, ys, h1, h2⟩
theorem ownsAt_old {B : Addr} {G0 H0 : Hp} {σ : L2.St} {env : Env} {β : BS} {G H : Hp} (R : Rel K B G0 H0 σ env β G H) {p : Addr} (h : OwnsAt σ env p) : H p ≠ none := by
  obtain ⟨j, ys, h1, h2⟩ := h
  exact own_old R h1 h2
theorem keepH {B : Addr} {G H G' H' : Hp} {β : BS} (e : Ext B G H G' H') (b : BagAt B G' H' β) {p : Addr} (h : H p ≠ none) : H' p ≠ none := by
  cases q : H p with
  | none => exact absurd q h
  | some o =>
    by_cases z : p = B
    · obtain ⟨C, k, _⟩ := b.at_
      rw [z, k]
      intro w
      cases w
    · rw [e.hh p o q z]
      intro w
      cases w
theorem isD_own {x : D} {ys : List D} (h : Sl.d x = Sl.own ys) : False := by cases h
mutual
theorem sndS (hΓ : ∀ f vs H Q E, gam K M f vs H Q E → Γ f vs H Q E) : ∀ c : CS, SndS K M Γ c
  | .pass => fun env β o h B G0 H0 σ G H R W Dn q => by
    simp only [evS] at h
    cases h
    exact q.nx _ _ rfl σ G H (Sub.refl G) R
  | .fz is => fun env β o h B G0 H0 σ G H R W Dn q => by
    simp only [evS] at h
    cases h
    obtain ⟨G', s, R'⟩ := Rel.frz is R
    exact q.nx _ _ rfl σ G' H s R'
  | .expr e => fun env β o h B G0 H0 σ G H R W Dn q => by
    simp only [evS] at h
    split at h
    · rename_i i a
      split at h
      · rename_i xs hi
        obtain ⟨⟨x, β1⟩, h1, h2⟩ := some_bind h
        split at h2
        · rename_i hl
          cases h2
          obtain ⟨p, vs, g1, g2, g3, g4, g5⟩ := R.o i xs hi
          refine ⟨.ref p, g1, .inl ⟨rfl, _, SqL.of g2⟩, sndP hΓ a env β x β1 h1 R W _ fun v G1 H1 e1 b1 d1 => ?_⟩
          have R1 := R.ext e1 b1
          obtain ⟨p', ws, k1, k2, k3, k4, k5⟩ := R1.o i xs hi
          rw [g1] at k1
          cases k1
          refine ⟨p, ws, v, rfl, rfl, k2, lineL (by rw [k5.length]; exact hl), ?_⟩
          exact q.nx _ _ rfl σ G1 _ e1.gg (R1.mutO hi g1 (k5.app (.cons d1 .nil)))
        · cases h2
      · cases h
    · rename_i i a
      split at h
      · rename_i xs hi
        obtain ⟨⟨x, β1⟩, h1, h2⟩ := some_bind h
        split at h2
        · rename_i ys hx
          have hx' : x = .lst ys := hx
          subst hx'
          split at h2
          · rename_i hl
            cases h2
            obtain ⟨p, vs, g1, g2, g3, g4, g5⟩ := R.o i xs hi
            refine ⟨.ref p, g1, .inl ⟨rfl, _, SqL.of g2⟩, sndP hΓ a env β _ β1 h1 R W _ fun v G1 H1 e1 b1 d1 => ?_⟩
            have R1 := R.ext e1 b1
            obtain ⟨p', ws, k1, k2, k3, k4, k5⟩ := R1.o i xs hi
            rw [g1] at k1
            cases k1
            cases d1 with
            | lst m1 m2 =>
              refine ⟨p, _, ws, _, rfl, rfl, k2, e1.gh _ _ m1, lineM (by rw [k5.length, m2.length]; exact hl), ?_⟩
              exact q.nx _ _ rfl σ G1 _ e1.gg (R1.mutO hi g1 (k5.app m2))
          · cases h2
        · cases h2
      · cases h
    · obtain ⟨⟨x, β1⟩, h1, h2⟩ := some_pair h
      cases h2
      exact sndP hΓ _ env β x β1 h1 R W _ fun v G1 H1 e1 b1 d1 => q.nx _ _ rfl σ G1 H1 e1.gg (R.ext e1 b1)
  | .ret e => fun env β o h B G0 H0 σ G H R W Dn q => by
    simp only [evS] at h
    obtain ⟨⟨x, β1⟩, h1, h2⟩ := some_pair h
    cases h2
    exact sndP hΓ e env β x β1 h1 R W _ fun v G1 H1 e1 b1 d1 => q.rt _ _ rfl v G1 H1 (R.ext e1 b1).toExt b1 d1
  | .retN => fun env β o h B G0 H0 σ G H R W Dn q => by
    simp only [evS] at h
    cases h
    exact q.rt _ _ rfl .non G H R.toExt R.bag .non
  | .ifs c a b => fun env β o h B G0 H0 σ G H R W Dn q => by
    simp only [evS] at h
    obtain ⟨⟨t, β1⟩, h1, h2⟩ := some_bind h
    refine sndB hΓ c env β t β1 h1 R W _ fun G1 H1 e1 b1 => ?_
    have q' : Kont K B G0 H0 G1 o Dn := ⟨fun e2 β2 ho σ' G' H' s R' => q.nx e2 β2 ho σ' G' H' (e1.gg.trans s) R', q.rt⟩
    cases t with
    | true =>
      show semSs Γ K a W Dn σ H1
      exact sndSs hΓ a env β1 o h2 (R.ext e1 b1) W Dn q'
    | false =>
      show semSs Γ K b W Dn σ H1
      exact sndSs hΓ b env β1 o h2 (R.ext e1 b1) W Dn q'
  | .asg t e => fun env β o h B G0 H0 σ G H R W Dn q => by
    simp only [evS] at h
    obtain ⟨⟨x, β1⟩, h1, h2⟩ := some_bind h
    obtain ⟨e1, h3, h4⟩ := some_pair h2
    cases h4
    refine sndP hΓ e env β x β1 h1 R W _ fun v G1 H1 x1 b1 d1 => ?_
    exact bind_snd t x env e1 h3 (R.ext x1 b1) d1 _ fun σ' _ R' => q.nx _ _ rfl σ' G1 H1 x1.gg R'
  | .asgO i e => fun env β o h B G0 H0 σ G H R W Dn q => by
    simp only [evS] at h
    obtain ⟨⟨xs, β1⟩, h1, h2⟩ := some_pair h
    cases h2
    refine sndF hΓ e h1 R W _ fun p vs G' H' x b hp hH hG hd => ?_
    exact q.nx _ _ rfl _ G' H' x.gg ((R.ext x b).setO hH hG (R.h0none hp) (fun j ys _ hj z => own_old R hj z hp) hd)
  | .par2 oi oj i j a b => fun env β o h B G0 H0 σ G H R W Dn q => by
    simp only [evS] at h
    obtain ⟨⟨s1, β1⟩, h1, h2⟩ := some_bind h
    obtain ⟨⟨s2, β2⟩, h3, h4⟩ := some_pair h2
    cases h4
    refine sndO hΓ oi a h1 R W _ fun v G1 H1 e1 b1 st1 fr1 => sndO hΓ oj b h3 (R.ext e1 b1) W _ fun w G2 H2 e2 b2 st2 fr2 => ⟨v, w, rfl, ?_⟩
    have R1 := R.ext e1 b1
    have R2 := R1.ext e2 b2
    have Ra := st1 β2 G2 H2 σ env i e2 R2 fun k ys hk hv ⟨p, hp, _, hp2⟩ => by
      rw [hp] at hv
      exact absurd hp2 (own_old R hk hv)
    have Rb := st2 β2 G2 H2 _ _ j (Ext.refl e2.gh) Ra fun k ys hk hv ⟨p, hp, _, hp2⟩ => by
      exfalso
      rw [hp] at hv
      rcases ownsAt_set (p := p) ⟨k, ys, hk, hv⟩ with o1 | ⟨o1, zs, o2⟩
      · exact ownsAt_old R1 o1 hp2
      · rcases fr1 with ⟨x, hx⟩ | ⟨p', hp', _, hn⟩
        · rw [hx] at o2
          cases o2
        · rw [o1] at hp'
          cases hp'
          exact hn hp2
    exact q.nx _ _ rfl _ G2 H2 (e1.gg.trans e2.gg) Rb
  | .par3 oi oj ol i j l a b c => fun env β o h B G0 H0 σ G H R W Dn q => by
    simp only [evS] at h
    obtain ⟨⟨s1, β1⟩, h1, h2⟩ := some_bind h
    obtain ⟨⟨s2, β2⟩, h3, h4⟩ := some_bind h2
    obtain ⟨⟨s3, β3⟩, h5, h6⟩ := some_pair h4
    cases h6
    refine sndO hΓ oi a h1 R W _ fun v G1 H1 e1 b1 st1 fr1 => sndO hΓ oj b h3 (R.ext e1 b1) W _ fun w G2 H2 e2 b2 st2 fr2 => sndO hΓ ol c h5 ((R.ext e1 b1).ext e2 b2) W _ fun u G3 H3 e3 b3 st3 fr3 => ⟨v, w, u, rfl, ?_⟩
    have R1 := R.ext e1 b1
    have R2 := R1.ext e2 b2
    have R3 := R2.ext e3 b3
    have Ra := st1 β3 G3 H3 σ env i (e2.trans e3 b3.out) R3 fun k ys hk hv ⟨p, hp, _, hp2⟩ => by
      rw [hp] at hv
      exact absurd hp2 (own_old R hk hv)
    have no1 : ∀ p, OwnsAt (σ.set i (some v)) (env.set i (some s1)) p → H1 p ≠ none := fun p hp => by
      rcases ownsAt_set hp with o1 | ⟨o1, zs, o2⟩
      · exact ownsAt_old R1 o1
      · rcases fr1 with ⟨x, hx⟩ | ⟨p', hp', _, hn⟩
        · rw [hx] at o2
          cases o2
        · rw [o1] at hp'
          cases hp'
          exact hn
    have Rb := st2 β3 G3 H3 _ _ j e3 Ra fun k ys hk hv ⟨p, hp, _, hp2⟩ => by
      rw [hp] at hv
      exact absurd hp2 (no1 p ⟨k, ys, hk, hv⟩)
    have no2 : ∀ p, OwnsAt ((σ.set i (some v)).set j (some w)) ((env.set i (some s1)).set j (some s2)) p → H2 p ≠ none := fun p hp => by
      rcases ownsAt_set hp with o1 | ⟨o1, zs, o2⟩
      · exact keepH e2 b2 (no1 p o1)
      · rcases fr2 with ⟨x, hx⟩ | ⟨p', hp', _, hn⟩
        · rw [hx] at o2
          cases o2
        · rw [o1] at hp'
          cases hp'
          exact hn
    have Rc := st3 β3 G3 H3 _ _ l (Ext.refl e3.gh) Rb fun k ys hk hv ⟨p, hp, _, hp2⟩ => by
      rw [hp] at hv
      exact absurd hp2 (no2 p ⟨k, ys, hk, hv⟩)
    exact q.nx _ _ rfl _ G3 H3 (e1.gg.trans (e2.gg.trans e3.gg)) Rc
  | .aug i op e => fun env β o h B G0 H0 σ G H R W Dn q => by
    simp only [evS] at h
    split at h
    · rename_i x hi
      obtain ⟨⟨y, β1⟩, h1, h2⟩ := some_bind h
      obtain ⟨v, g1, g2⟩ := R.d i _ hi
      cases g2
      split at h2
      · rename_i z hz
        have hz' : y = .int z := hz
        subst hz'
        cases h2
        refine ⟨.int x, g1, sndP hΓ e env β _ β1 h1 R W _ fun w G1 H1 e1 b1 d1 => ?_⟩
        cases d1
        exact .inl ⟨x, z, rfl, rfl, q.nx _ _ rfl _ G1 H1 e1.gg ((R.ext e1 b1).setD (.int _))⟩
      · rename_i z hz
        have hz' : y = .int z := hz
        subst hz'
        cases h2
        refine ⟨.int x, g1, sndP hΓ e env β _ β1 h1 R W _ fun w G1 H1 e1 b1 d1 => ?_⟩
        cases d1
        exact ⟨x, z, rfl, rfl, q.nx _ _ rfl _ G1 H1 e1.gg ((R.ext e1 b1).setD (.int _))⟩
      · cases h2
    · cases h
  | .setIx o a e => fun env β ou h B G0 H0 σ G H R W Dn q => by
    simp only [evS] at h
    split at h
    · rename_i i
      split at h
      · rename_i xs hi
        obtain ⟨⟨x, β1⟩, h1, h2⟩ := some_bind h
        obtain ⟨⟨y, β2⟩, h3, h4⟩ := some_bind h2
        split at h4
        · rename_i k hk
          have hk' : y = .int k := hk
          subst hk'
          obtain ⟨j, h5, h6⟩ := some_pair h4
          cases h6
          refine sndP hΓ e env β x β1 h1 R W _ fun v G1 H1 e1 b1 d1 => ?_
          have R1 := R.ext e1 b1
          obtain ⟨p, vs, g1, g2, g3, g4, g5⟩ := R1.o i xs hi
          refine ⟨.ref p, g1, sndP hΓ a env β1 _ β2 h3 R1 W _ fun w G2 H2 e2 b2 d2 => ?_⟩
          cases d2
          have R2 := R1.ext e2 b2
          obtain ⟨p', ws, k1, k2, k3, k4, k5⟩ := R2.o i xs hi
          rw [g1] at k1
          cases k1
          refine ⟨p, ws, k, j, rfl, rfl, k2, by rw [k5.length]; exact h5, ?_⟩
          exact q.nx _ _ rfl σ G2 _ (e1.gg.trans e2.gg) (R2.mutO hi g1 (k5.set (d1.mono e2.gg)))
        · cases h4
      · cases h
    · cases h
  | .augIx _ _ _ _ => fun env β o h => by simp [evS] at h
  | .forS t it body => fun env β o h B G0 H0 σ G H R W Dn q => by
    simp only [evS] at h
    split at h
    · rename_i hn
      obtain ⟨r, h1, h2⟩ := some_bind h
      exact for_snd (sndI hΓ it) (sndSs hΓ body) hn h1 h2 R W Dn q
    · cases h
theorem sndSs (hΓ : ∀ f vs H Q E, gam K M f vs H Q E → Γ f vs H Q E) : ∀ cs : List CS, SndSs K M Γ cs
  | [] => fun env β o h B G0 H0 σ G H R W Dn q => by
    simp only [evSs] at h
    cases h
    exact q.nx _ _ rfl σ G H (Sub.refl G) R
  | c :: cs => fun env β o h B G0 H0 σ G H R W Dn q => by
    simp only [evSs] at h
    obtain ⟨o1, h1, h2⟩ := some_bind h
    refine sndS hΓ c env β o1 h1 R W _ ⟨fun e2 β2 ho σ' G' H' s R' => ?_, fun x β2 ho v G' H' x' b' d' => ?_⟩
    · subst ho
      exact sndSs hΓ cs e2 β2 o h2 R' W Dn ⟨fun e3 β3 ho σ2 G2 H2 s2 R2 => q.nx e3 β3 ho σ2 G2 H2 (s.trans s2) R2, q.rt⟩
    · subst ho
      cases h2
      exact q.rt x β2 rfl v G' H' x' b' d'
end
theorem start_get {N : List Str} {vs : List V} : start N vs = vs.map some ++ List.replicate (N.length - vs.length) none := rfl
theorem obl_ev {d : Fd} (hΓ : ∀ f vs H Q E, gam K M f vs H Q E → Γ f vs H Q E) (hd : ∀ vs H Q E, Γ d.id vs H Q E → gam K M d.id vs H Q E) (hm : ∀ ds β r, M d.id ds β = some r → evFd M d ds β = some r) : Obl Γ K d := by
  intro vs H Q E h
  obtain ⟨B, G, β, ds, x, β', h1, h2, h3, h4, h5⟩ := hd vs H Q E h
  have he := hm ds β _ h1
  unfold evFd at he
  split at he
  · rename_i hl
    obtain ⟨o, k1, k2⟩ := some_pair he
    refine ⟨by rw [h4.length]; exact hl.1, ?_⟩
    have R : Rel K B G H (start d.N vs) (ds.map (fun x => some (Sl.d x)) ++ List.replicate (d.N.length - ds.length) none) β G H := by
      refine { len := ?_, sub := h2, g0 := Sub.refl G, h0 := fun _ _ z _ => z, n0 := fun _ _ _ z => z, b0 := ?_, bag := h3, d := fun i y hi => ?_, o := fun i ys hi => ?_, inj := fun i j ys zs p hi => ?_ }
      · rw [start_get]
        simp [h4.length]
      · obtain ⟨C, k, _⟩ := h3.at_
        exact ⟨_, k⟩
      · rw [List.getElem?_append] at hi
        split at hi
        · rename_i hlt
          rw [List.getElem?_map] at hi
          obtain ⟨y', g1, g2⟩ := Option.map_eq_some_iff.mp hi
          cases g2
          obtain ⟨v, g3, g4⟩ := h4.get g1
          refine ⟨v, ?_, g4⟩
          rw [start_get, List.getElem?_append_left (by rw [List.length_map, h4.length]; simpa using hlt), List.getElem?_map, g3]
          rfl
        · rw [List.getElem?_replicate] at hi
          split at hi <;> cases hi
      · exfalso
        rw [List.getElem?_append] at hi
        split at hi
        · rw [List.getElem?_map] at hi
          obtain ⟨y', g1, g2⟩ := Option.map_eq_some_iff.mp hi
          cases g2
        · rw [List.getElem?_replicate] at hi
          split at hi <;> cases hi
      · exfalso
        rw [List.getElem?_append] at hi
        split at hi
        · rw [List.getElem?_map] at hi
          obtain ⟨y', g1, g2⟩ := Option.map_eq_some_iff.mp hi
          cases g2
        · rw [List.getElem?_replicate] at hi
          split at hi <;> cases hi
    refine sndSs hΓ d.body _ β o k1 R _ _ ⟨fun e2 β2 ho σ' G' H' s R' => ?_, fun y β2 ho v G' H' x' b' d' => ?_⟩
    · subst ho
      cases k2
      exact h5 .non G' H' R'.toExt R'.bag .non
    · subst ho
      cases k2
      exact h5 v G' H' x' b' d'
  · cases he
end
end LT

namespace LT
open PySem PySem.Spec PyProof.Rows L2
def BS.turn (β : BS) : BS :=
  if β.c = 0 then
    let cell := if β.i < β.xs.length then β.xs.getD β.i.toNat 0 else 0
    { c := if 1000000000000000000 ≤ cell then cell else 0, s := (β.s * 48271 + cell % 2147483647 + 7919 * (β.i + 1)) % 2147483647, i := β.i + 1, xs := β.xs }
  else β
def mixI (s m : Int) : Int := (((((s + 1) * 39373 % 1000000007) * ((s + 1) * 39373 % 1000000007)) % 998244353 * 30011) % 998244353 / 7) % m
def BS.take (β : BS) (m : Int) : Int × BS :=
  let β1 := β.turn
  if 0 < β1.c then (β1.c % m, { β1 with c := β1.c / m }) else (mixI β1.s m, β1)
theorem BS.take_range (β : BS) {m : Int} (h : 0 < m) : 0 ≤ (β.take m).1 ∧ (β.take m).1 < m := by
  unfold BS.take
  simp only []
  split
  · exact ⟨Int.emod_nonneg _ (by omega), Int.emod_lt_of_pos _ h⟩
  · exact ⟨Int.emod_nonneg _ (by omega), Int.emod_lt_of_pos _ h⟩
def takeMir : Mir := fun ds β => match ds with
  | [.bag, .int m] => if 0 < m ∧ m.natAbs < big then some (.int (β.take m).1, (β.take m).2) else none
  | _ => none
def dTakeBody : List CS := [
  .ifs (.cmp .Eq (.ix (.var 0) (.cst (.int 0))) (.cst (.int 0))) [.asg (.name 2) (.cst (.int 0)), .ifs (.cmp .Lt (.ix (.var 0) (.cst (.int 2))) (.blt .len [(.ix (.var 0) (.cst (.int 3)))])) [.asg (.name 2) (.ix (.ix (.var 0) (.cst (.int 3))) (.ix (.var 0) (.cst (.int 2))))] [], .augIx (.var 0) (.cst (.int 2)) .Add (.cst (.int 1)), .ifs (.cmp .GtE (.var 2) (.cst (.int 1000000000000000000))) [.setIx (.var 0) (.cst (.int 0)) (.var 2)] [], .asg (.name 3) (.bin .Add (.bin .Add (.bin .Mult (.ix (.var 0) (.cst (.int 1))) (.cst (.int 48271))) (.bin .Mod (.blt .int [(.var 2)]) (.cst (.int 2147483647)))) (.bin .Mult (.cst (.int 7919)) (.ix (.var 0) (.cst (.int 2))))), .setIx (.var 0) (.cst (.int 1)) (.bin .Mod (.blt .int [(.var 3)]) (.cst (.int 2147483647)))] [],
  .ifs (.cmp .Gt (.ix (.var 0) (.cst (.int 0))) (.cst (.int 0))) [.asg (.name 4) (.bin .Mod (.blt .int [(.ix (.var 0) (.cst (.int 0)))]) (.var 1)), .setIx (.var 0) (.cst (.int 0)) (.bin .FloorDiv (.ix (.var 0) (.cst (.int 0))) (.var 1)), .ret (.var 4)] [],
  .asg (.name 5) (.bin .Mod (.blt .int [(.bin .Mult (.bin .Add (.ix (.var 0) (.cst (.int 1))) (.cst (.int 1))) (.cst (.int 39373)))]) (.cst (.int 1000000007))),
  .asg (.name 6) (.bin .Mod (.blt .int [(.bin .Mult (.bin .Mod (.blt .int [(.bin .Mult (.var 5) (.var 5))]) (.cst (.int 998244353))) (.cst (.int 30011)))]) (.cst (.int 998244353))),
  .ret (.bin .Mod (.blt .int [(.bin .FloorDiv (.var 6) (.cst (.int 7)))]) (.var 1))]
section
variable {K : PySem.W.Frag} {Γ : Nat → Sp}
theorem bag_ix {H : Hp} {B : Addr} {xs : List V} {k : Nat} {v : V} {Q : VK} (h : H B = some (.lst xs)) (hv : xs[k]? = some v) (q : Q v H) : rIx K (.ref B) (.int (k : Nat)) H Q :=
  .inl ⟨B, xs, k, v, rfl, rfl, SqL.of h, atI_nat hv, q⟩
theorem mul_small {x y : Int} {H : Hp} {Q : VK} (h : y.natAbs < 2 ^ 64) (q : Q (.int (x * y)) H) : rBin K .Mult (.int x) (.int y) H Q := .inr (.inl ⟨x, y, rfl, rfl, .inr ⟨by omega, by omega⟩, q⟩)
theorem mul_smallL {x y : Int} {H : Hp} {Q : VK} (h : x.natAbs < 2 ^ 64) (q : Q (.int (x * y)) H) : rBin K .Mult (.int x) (.int y) H Q := .inr (.inl ⟨x, y, rfl, rfl, .inl ⟨by omega, by omega⟩, q⟩)
theorem add_i {x y : Int} {H : Hp} {Q : VK} (q : Q (.int (x + y)) H) : rBin K .Add (.int x) (.int y) H Q := .inl ⟨x, y, rfl, rfl, q⟩
theorem mod_i {x y : Int} {H : Hp} {Q : VK} (h : 0 < y) (q : Q (.int (x % y)) H) : rBin K .Mod (.int x) (.int y) H Q := ⟨x, y, rfl, rfl, h, q⟩
theorem div_i {x y : Int} {H : Hp} {Q : VK} (h : 0 < y) (h2 : y.natAbs < big) (q : Q (.int (x / y)) H) : rBin K .FloorDiv (.int x) (.int y) H Q := ⟨x, y, rfl, rfl, wide_div h (bigLog h2) (by decide) (by decide), q⟩
theorem int_i {x : Int} {H : Hp} {Q : VK} (q : Q (.int x) H) : rBlt K .int [.int x] H Q := .inl ⟨x, rfl, q⟩
theorem ifT {b : Bool} (h : b = true) {p q : Prop} (hp : p) : if b = true then p else q := by
  rw [if_pos h]
  exact hp
theorem ifF {b : Bool} (h : b = false) {p q : Prop} (hq : q) : if b = true then p else q := by
  rw [if_neg (by rw [h]; decide)]
  exact hq
section
variable {W : WX} {σ : L2.St} {H : Hp} {Q : VK} {Dn : Ends}
theorem w_var {i : Nat} {v : V} (h : σ[i]? = some (some v)) (q : Q v H) : semE Γ K (.var i) W σ H Q := ⟨v, h, q⟩
theorem w_int {i : Int} (q : Q (.int i) H) : semE Γ K (.cst (.int i)) W σ H Q := q
theorem w_bin {op : Operator} {a b : CE} (h : semE Γ K a W σ H fun x H1 => semE Γ K b W σ H1 fun y H2 => rBin K op x y H2 Q) : semE Γ K (.bin op a b) W σ H Q := h
theorem w_ix {a b : CE} (h : semE Γ K a W σ H fun x H1 => semE Γ K b W σ H1 fun y H2 => rIx K x y H2 Q) : semE Γ K (.ix a b) W σ H Q := h
theorem w_blt1 {b : Bt} {a : CE} (h : semE Γ K a W σ H fun x H1 => rBlt K b [x] H1 Q) : semE Γ K (.blt b [a]) W σ H Q := h
theorem w_asg {i : Nat} {e : CE} (h : semE Γ K e W σ H fun x H1 => Dn.nx (σ.set i (some x)) H1) : semS Γ K (.asg (.name i) e) W Dn σ H := h
theorem w_ret {e : CE} (h : semE Γ K e W σ H Dn.rt) : semS Γ K (.ret e) W Dn σ H := h
theorem w_set {o a e : CE} (h : semE Γ K e W σ H fun v H1 => semE Γ K o W σ H1 fun x H2 => semE Γ K a W σ H2 fun y H3 => rSetL x y v H3 fun H4 => Dn.nx σ H4) : semS Γ K (.setIx o a e) W Dn σ H := h
theorem w_cons {s : CS} {ss : List CS} (h : semS Γ K s W { Dn with nx := semSs Γ K ss W Dn } σ H) : semSs Γ K (s :: ss) W Dn σ H := h
theorem w_nil (h : Dn.nx σ H) : semSs Γ K [] W Dn σ H := h
theorem w_ifs {c : CB} {a b : List CS} {t : Bool} (h : semB Γ K c W σ H fun k H1 => k = t ∧ if t = true then semSs Γ K a W Dn σ H1 else semSs Γ K b W Dn σ H1) (m : ∀ {P Q : Bool → Hp → Prop}, (∀ k H1, P k H1 → Q k H1) → semB Γ K c W σ H P → semB Γ K c W σ H Q) : semS Γ K (.ifs c a b) W Dn σ H := m (fun k H1 h2 => by
  obtain ⟨rfl, h3⟩ := h2
  exact h3) h
theorem w_cmp {op : CmpOp} {a b : CE} {x y : List CS} (h : semE Γ K a W σ H fun u H1 => semE Γ K b W σ H1 fun v H2 => rCmp K op u v H2 fun z H3 => ∃ k, z = .bl k ∧ if k = true then semSs Γ K x W Dn σ H3 else semSs Γ K y W Dn σ H3) : semS Γ K (.ifs (.cmp op a b) x y) W Dn σ H := h
theorem w_aug {o a e : CE} (h : semE Γ K o W σ H fun x H1 => semE Γ K a W σ H1 fun y H2 => rIxL K x y H2 fun z H3 => semE Γ K e W σ H3 fun u H4 => rIp K .Add z u H4 fun w H5 => rSetL x y w H5 fun H6 => Dn.nx σ H6) : semS Γ K (.augIx o a .Add e) W Dn σ H := h
end
theorem set_b {B : Addr} {xs : List V} {k : Nat} {v : V} {H : Hp} {Q : Hp → Prop} (h : H B = some (.lst xs)) (hk : ixN xs.length (k : Nat) = some k) (q : Q (upd H B (.lst (xs.set k v)))) : rSetL (.ref B) (.int (k : Nat)) v H Q := ⟨B, xs, k, k, rfl, rfl, h, hk, q⟩
theorem cmp_eq {x y : Int} {H : Hp} {Q : VK} (q : Q (.bl (decide (V.int x = V.int y))) H) : rCmp K .Eq (.int x) (.int y) H Q := .inl ⟨rfl, q⟩
theorem cmp_lt {x y : Int} {H : Hp} {Q : VK} (q : Q (.bl (decide (x < y))) H) : rCmp K .Lt (.int x) (.int y) H Q := .inl ⟨x, y, rfl, rfl, q⟩
theorem cmp_gt {x y : Int} {H : Hp} {Q : VK} (q : Q (.bl (decide (y < x))) H) : rCmp K .Gt (.int x) (.int y) H Q := ⟨x, y, rfl, rfl, q⟩
theorem cmp_ge {x y : Int} {H : Hp} {Q : VK} (q : Q (.bl (decide (y ≤ x))) H) : rCmp K .GtE (.int x) (.int y) H Q := ⟨x, y, rfl, rfl, q⟩
theorem take_end {B C : Addr} {H : Hp} {c s i m : Int} {W : WX} {Dn : Ends} {y2 y3 y4 y5 y6 : Option V} (hB : H B = some (.lst [.int c, .int s, .int i, .ref C])) (hm : 0 < m) (hb : m.natAbs < big)
    (q1 : 0 < c → Dn.rt (.int (c % m)) (upd H B (.lst [.int (c / m), .int s, .int i, .ref C]))) (q2 : ¬ 0 < c → Dn.rt (.int (mixI s m)) H) :
    semSs Γ K (dTakeBody.drop 1) W Dn [some (.ref B), some (.int m), y2, y3, y4, y5, y6] H := by
  refine w_cons (w_cmp (w_ix (w_var rfl (w_int (bag_ix (k := 0) hB rfl (w_int (cmp_gt ⟨_, rfl, ?_⟩)))))))
  by_cases hc : 0 < c
  · refine ifT (decide_eq_true hc) ?_
    refine w_cons (w_asg (w_bin (w_blt1 (w_ix (w_var rfl (w_int (bag_ix (k := 0) hB rfl (int_i (w_var rfl (mod_i hm ?_))))))))))
    refine w_cons (w_set (w_bin (w_ix (w_var rfl (w_int (bag_ix (k := 0) hB rfl (w_var rfl (div_i hm hb (w_var rfl (w_int (set_b (k := 0) hB rfl ?_)))))))))))
    exact w_cons (w_ret (w_var rfl (q1 hc)))
  · refine ifF (decide_eq_false hc) (w_nil ?_)
    refine w_cons (w_asg ?_)
    refine w_bin (w_blt1 ?_)
    refine w_bin (w_bin ?_)
    refine w_ix (w_var rfl (w_int ?_))
    refine bag_ix (k := 1) hB rfl (w_int ?_)
    refine add_i (w_int ?_)
    refine mul_small (by decide) (int_i (w_int ?_))
    refine mod_i (by decide) ?_
    have r0 : 0 ≤ (s + 1) * 39373 % 1000000007 := Int.emod_nonneg _ (by decide)
    have r1 : (s + 1) * 39373 % 1000000007 < 1000000007 := Int.emod_lt_of_pos _ (by decide)
    refine w_cons (w_asg ?_)
    refine w_bin (w_blt1 ?_)
    refine w_bin (w_bin ?_)
    refine w_blt1 (w_bin ?_)
    refine w_var rfl (w_var rfl ?_)
    refine mul_small (by omega) (int_i (w_int ?_))
    refine mod_i (by decide) (w_int ?_)
    refine mul_small (by decide) (int_i (w_int ?_))
    refine mod_i (by decide) ?_
    refine w_cons (w_ret ?_)
    refine w_bin (w_blt1 ?_)
    refine w_bin (w_var rfl (w_int ?_))
    refine div_i (by decide) (by unfold big; decide +kernel) (int_i ?_)
    refine w_var rfl (mod_i hm (q2 hc))
theorem obl_take {M : Nat → Mir} {d : Fd} (hid : M d.id = takeMir) (hb : d.body = dTakeBody) (hps : d.ps.length = 2) (hN : d.N.length = 7) (hd : ∀ vs H Q E, Γ d.id vs H Q E → gam K M d.id vs H Q E) : Obl Γ K d := by
  intro vs H Q E h
  obtain ⟨B, G, β, ds, x, β', h1, hs, hbag, hden, q⟩ := hd vs H Q E h
  rw [hid] at h1
  unfold takeMir at h1
  split at h1
  · rename_i m
    split at h1
    · rename_i hm
      cases h1
      obtain ⟨hm0, hmb⟩ := hm
      cases hden with
      | cons a t =>
        cases t with
        | cons b t2 =>
          cases t2
          cases a
          cases b
          refine ⟨by rw [hps]; rfl, ?_⟩
          rw [hb]
          have hst : start d.N [V.ref B, V.int m] = [some (.ref B), some (.int m), none, none, none, none, none] := by
            rw [start_get, hN]
            rfl
          rw [hst]
          obtain ⟨C, hB, hC⟩ := hbag.at_
          have hH := hs _ _ hC
          have CB : C ≠ B := fun z => by
            rw [z, hbag.out] at hC
            cases hC
          have fin : ∀ (H1 : Hp) (y2 y3 : Option V), H1 B = some (.lst [.int β.turn.c, .int β.turn.s, .int β.turn.i, .ref C]) → (∀ a, a ≠ B → H1 a = H a) → 0 ≤ β.turn.i → β.turn.xs = β.xs →
              semSs Γ K (dTakeBody.drop 1) (fun cls dd _ H => E cls dd H) { nx := fun _ H' => Q .non H', rt := Q } [some (.ref B), some (.int m), y2, y3, none, none, none] H1 := by
            intro H1 y2 y3 hB1 hoth hi hxs
            refine take_end hB1 hm0 hmb (fun hc => ?_) (fun hc => ?_)
            · have e : β.take m = (β.turn.c % m, { β.turn with c := β.turn.c / m }) := by
                unfold BS.take
                simp only []
                rw [if_pos hc]
              rw [e] at q
              refine q _ G _ ⟨Sub.refl G, fun a o z => ?_, fun a o z za => ?_, fun _ _ _ z => z⟩ ⟨⟨C, upd_same, by rw [show ({ β.turn with c := β.turn.c / m } : BS).xs = β.xs from hxs]; exact hC⟩, hbag.out, hi⟩ (.int _)
              · have na : a ≠ B := fun k => by rw [k, hbag.out] at z; cases z
                rw [upd_ne na, hoth a na]
                exact hs a o z
              · rw [upd_ne za, hoth a za]
                exact z
            · have e : β.take m = (mixI β.turn.s m, β.turn) := by
                unfold BS.take
                simp only []
                rw [if_neg hc]
              rw [e] at q
              refine q _ G _ ⟨Sub.refl G, fun a o z => ?_, fun a o z za => ?_, fun _ _ _ z => z⟩ ⟨⟨C, hB1, by rw [hxs]; exact hC⟩, hbag.out, hi⟩ (.int _)
              · have na : a ≠ B := fun k => by rw [k, hbag.out] at z; cases z
                rw [hoth a na]
                exact hs a o z
              · rw [hoth a za]
                exact z
          refine w_cons (w_cmp (w_ix (w_var rfl (w_int (bag_ix (k := 0) hB rfl (w_int (cmp_eq ⟨_, rfl, ?_⟩)))))))
          by_cases hc : β.c = 0
          · refine ifT (decide_eq_true (by rw [hc])) ?_
            have mid : ∀ cell : Int, cell = (if β.i < β.xs.length then β.xs.getD β.i.toNat 0 else 0) → semSs Γ K [.augIx (.var 0) (.cst (.int 2)) .Add (.cst (.int 1)), .ifs (.cmp .GtE (.var 2) (.cst (.int 1000000000000000000))) [.setIx (.var 0) (.cst (.int 0)) (.var 2)] [], .asg (.name 3) (.bin .Add (.bin .Add (.bin .Mult (.ix (.var 0) (.cst (.int 1))) (.cst (.int 48271))) (.bin .Mod (.blt .int [(.var 2)]) (.cst (.int 2147483647)))) (.bin .Mult (.cst (.int 7919)) (.ix (.var 0) (.cst (.int 2))))), .setIx (.var 0) (.cst (.int 1)) (.bin .Mod (.blt .int [(.var 3)]) (.cst (.int 2147483647)))] (fun cls dd _ H => E cls dd H)
                { nx := semSs Γ K (dTakeBody.drop 1) (fun cls dd _ H => E cls dd H) { nx := fun _ H' => Q .non H', rt := Q }, rt := Q } [some (.ref B), some (.int m), some (.int cell), none, none, none, none] H := by
              intro cell hcell
              refine w_cons (w_aug (w_var rfl (w_int ⟨B, _, 2, .int β.i, rfl, rfl, SqL.of hB, rfl, w_int (.inl ⟨_, _, rfl, rfl, set_b (k := 2) hB rfl ?_⟩)⟩)))
              have tail : ∀ (H1 : Hp) (c1 : Int), H1 B = some (.lst [.int c1, .int β.s, .int (β.i + 1), .ref C]) → (∀ a, a ≠ B → H1 a = H a) → c1 = (if 1000000000000000000 ≤ cell then cell else 0) →
                  semSs Γ K [.asg (.name 3) (.bin .Add (.bin .Add (.bin .Mult (.ix (.var 0) (.cst (.int 1))) (.cst (.int 48271))) (.bin .Mod (.blt .int [(.var 2)]) (.cst (.int 2147483647)))) (.bin .Mult (.cst (.int 7919)) (.ix (.var 0) (.cst (.int 2))))), .setIx (.var 0) (.cst (.int 1)) (.bin .Mod (.blt .int [(.var 3)]) (.cst (.int 2147483647)))] (fun cls dd _ H => E cls dd H)
                    { nx := semSs Γ K (dTakeBody.drop 1) (fun cls dd _ H => E cls dd H) { nx := fun _ H' => Q .non H', rt := Q }, rt := Q } [some (.ref B), some (.int m), some (.int cell), none, none, none, none] H1 := by
                intro H1 c1 hB1 hoth hc1
                refine w_cons (w_asg ?_)
                refine w_bin (w_bin ?_)
                refine w_bin (w_ix ?_)
                refine w_var rfl (w_int ?_)
                refine bag_ix (k := 1) hB1 rfl (w_int ?_)
                refine mul_small (by decide) ?_
                refine w_bin (w_blt1 ?_)
                refine w_var rfl (int_i (w_int ?_))
                refine mod_i (by decide) (add_i ?_)
                refine w_bin (w_int ?_)
                refine w_ix (w_var rfl (w_int ?_))
                refine bag_ix (k := 2) hB1 rfl ?_
                refine mul_smallL (by decide) (add_i ?_)
                refine w_cons (w_set ?_)
                refine w_bin (w_blt1 ?_)
                refine w_var rfl (int_i (w_int ?_))
                refine mod_i (by decide) (w_var rfl (w_int ?_))
                refine set_b (k := 1) hB1 rfl ?_
                have et : β.turn = ⟨c1, (β.s * 48271 + cell % 2147483647 + 7919 * (β.i + 1)) % 2147483647, β.i + 1, β.xs⟩ := by
                  unfold BS.turn
                  rw [if_pos hc]
                  simp only [← hcell, ← hc1]
                have i0 := hbag.i0
                exact fin _ _ _ (by rw [et]; exact upd_same) (fun a na => by rw [upd_ne na]; exact hoth a na) (by rw [et]; show 0 ≤ β.i + 1; omega) (by rw [et])
              refine w_cons (w_cmp (w_var rfl (w_int (cmp_ge ⟨_, rfl, ?_⟩))))
              by_cases h18 : 1000000000000000000 ≤ cell
              · refine ifT (decide_eq_true h18) ?_
                refine w_cons (w_set (w_var rfl (w_var rfl (w_int (set_b (k := 0) upd_same rfl ?_)))))
                exact tail _ cell upd_same (fun a na => by rw [upd_ne na, upd_ne na]) (by rw [if_pos h18])
              · refine ifF (decide_eq_false h18) (w_nil ?_)
                exact tail _ β.c upd_same (fun a na => by rw [upd_ne na]) (by rw [if_neg h18]; exact hc)
            refine w_cons (w_asg (w_int ?_))
            refine w_cons (w_cmp ?_)
            refine w_ix (w_var rfl (w_int ?_))
            refine bag_ix (k := 2) hB rfl ?_
            refine w_blt1 (w_ix ?_)
            refine w_var rfl (w_int ?_)
            refine bag_ix (k := 3) hB rfl ?_
            refine .inl ⟨C, _, rfl, .inl (SqL.of hH), ?_⟩
            rw [List.length_map]
            refine cmp_lt ⟨_, rfl, ?_⟩
            by_cases hlt : β.i < (β.xs.length : Int)
            · refine ifT (decide_eq_true hlt) ?_
              have hi : β.i.toNat < β.xs.length := by have := hbag.i0; omega
              have hn : ((β.i.toNat : Nat) : Int) = β.i := Int.toNat_of_nonneg hbag.i0
              refine w_cons (w_asg ?_)
              refine w_ix (w_ix ?_)
              refine w_var rfl (w_int ?_)
              refine bag_ix (k := 3) hB rfl ?_
              refine w_ix (w_var rfl (w_int ?_))
              refine bag_ix (k := 2) hB rfl ?_
              have key := bag_ix (K := K) (k := β.i.toNat) (v := .int (β.xs.getD β.i.toNat 0)) (Q := fun v H1 => semSs Γ K [.augIx (.var 0) (.cst (.int 2)) .Add (.cst (.int 1)), .ifs (.cmp .GtE (.var 2) (.cst (.int 1000000000000000000))) [.setIx (.var 0) (.cst (.int 0)) (.var 2)] [], .asg (.name 3) (.bin .Add (.bin .Add (.bin .Mult (.ix (.var 0) (.cst (.int 1))) (.cst (.int 48271))) (.bin .Mod (.blt .int [(.var 2)]) (.cst (.int 2147483647)))) (.bin .Mult (.cst (.int 7919)) (.ix (.var 0) (.cst (.int 2))))), .setIx (.var 0) (.cst (.int 1)) (.bin .Mod (.blt .int [(.var 3)]) (.cst (.int 2147483647)))] (fun cls dd _ H => E cls dd H)
                { nx := semSs Γ K (dTakeBody.drop 1) (fun cls dd _ H => E cls dd H) { nx := fun _ H' => Q .non H', rt := Q }, rt := Q } [some (.ref B), some (.int m), some v, none, none, none, none] H1) hH (by rw [List.getElem?_map, List.getElem?_eq_getElem hi]; simp [List.getD, List.getElem?_eq_getElem hi]) (mid _ (by rw [if_pos hlt]))
              rw [hn] at key
              exact key
            · refine ifF (decide_eq_false hlt) (w_nil ?_)
              exact mid 0 (by rw [if_neg hlt])
          · refine ifF (decide_eq_false fun z => hc (V.int.inj z)) (w_nil ?_)
            have e : β.turn = β := by
              unfold BS.turn
              rw [if_neg hc]
            have := fin H none none (by rw [e]; exact hB) (fun _ _ => rfl) (by rw [e]; exact hbag.i0) (by rw [e])
            exact this
    · cases h1
  · cases h1
end
end LT

namespace LT
open PySem PySem.Spec PyProof.Rows L2
def absI (i : Int) : Int := if i < 0 then -i else i
def spBag (K : PySem.W.Frag) : Sp := fun vs H Q _ => ∃ (a : Addr) (ns : List Int), vs = [.ref a] ∧ SqL K H a (ns.map V.int) ∧ ns.length ≤ 63 ∧ ∀ p C H', Sub H H' → H p = none → H C = none → p ≠ C → H' p = some (.lst [.int 0, .int 1234567891, .int 0, .ref C]) → H' C = some (.lst ((ns.map absI).map V.int)) → Q (.ref p) H'
def dBagBody : List CS := [.ret (.lst [(.cst (.int 0)), (.cst (.int 1234567891)), (.cst (.int 0)), (.lc (.blt .abs [(.var 1)]) (.name 1) (.seq (.slT (.var 0) (.cst (.int 63)))) [("_law_cell", 1)])])]
def spLaw (K : PySem.W.Frag) : Sp := fun vs H Q _ => ∃ (a : Addr) (ns : List Int), vs = [.ref a] ∧ SqL K H a (ns.map V.int) ∧ ns.length ≤ 63 ∧ ∀ H', Q (.bl true) H'
theorem cut63 (xs : List V) (h : xs.length ≤ 63) : cutV xs none (some 63) = xs := by
  unfold cutV
  rw [HT.sIx_none, show HT.sIx xs.length xs.length (some 63) = min 63 xs.length from HT.sIx_nat xs.length xs.length 63, List.drop_zero, Nat.sub_zero, List.take_of_length_le (by omega)]
section
variable {K : PySem.W.Frag} {Γ : Nat → Sp}
theorem w_lst4 {W : WX} {σ : L2.St} {H : Hp} {Q : VK} {a b c e : CE} (h : semE Γ K a W σ H fun x H1 => semE Γ K b W σ H1 fun y H2 => semE Γ K c W σ H2 fun z H3 => semE Γ K e W σ H3 fun u H4 => [x, y, z, u].length ≤ sizeLine ∧ ∀ p, H4 p = none → Q (.ref p) (upd H4 p (.lst [x, y, z, u]))) : semE Γ K (.lst [a, b, c, e]) W σ H Q := h
theorem w_lc {W : WX} {σ : L2.St} {H : Hp} {Q : VK} {elt : CE} {tg : CT} {it : CI} {own : List (Str × Nat)} (h : tLc (semI Γ K it W) (semG K tg) tYes (semE Γ K elt W0) (own.map (·.2)) σ H Q) : semE Γ K (.lc elt tg it own) W σ H Q := h
theorem obl_bag {d : Fd} (hb : d.body = dBagBody) (hps : d.ps.length = 1) (hN : d.N.length = 2) (hid : Γ d.id = spBag K) : Obl Γ K d := by
  intro vs H Q E h
  rw [hid] at h
  obtain ⟨a, ns, rfl, hS, hl, q⟩ := h
  refine ⟨by rw [hps]; rfl, ?_⟩
  rw [hb]
  have hst : start d.N [V.ref a] = [some (.ref a), none] := by
    rw [start_get, hN]
    rfl
  rw [hst]
  refine w_cons (w_ret (w_lst4 (w_int (w_int (w_int (w_lc ?_))))))
  refine Or.inl ⟨.ref a, rfl, 63, rfl, .inl ⟨a, _, rfl, hS, fun s hs => ?_⟩⟩
  have e1 : cutV (ns.map V.int) none (some 63) = ns.map V.int := cut63 _ (by rw [List.length_map]; exact hl)
  rw [e1]
  refine ⟨s, rfl, ⟨_, SqL.of upd_same⟩, fun D hD => ?_⟩
  have Ds : s ≠ D := fun z => by
    rw [← z, upd_same] at hD
    cases hD
  have hHD : H D = none := by
    rw [upd_ne Ds.symm] at hD
    exact hD
  refine ⟨fun i m H1 => i + m = ns.length ∧ Sub H H1 ∧ H1 s = some (.lst (ns.map V.int)) ∧ H1 D = some (.lst (((ns.take i).map absI).map V.int)), ⟨ns.length, by omega, fun b o z => ?_, ?_, upd_same⟩, fun i m H1 hW => ?_⟩
  · rw [upd_ne (ne_of_none z hHD), upd_ne (ne_of_none z hs)]
    exact z
  · rw [upd_ne Ds, upd_same]
  · obtain ⟨hm, sb, h1, h2⟩ := hW
    by_cases hi : i < ns.length
    · have hx : (ns.map V.int)[i]? = some (.int ns[i]) := by
        rw [List.getElem?_map, List.getElem?_eq_getElem hi]
        rfl
      refine .inr ⟨⟨_, _, SqL.of h1, hx⟩, fun H2 => i + 1 + (m - 1) = ns.length ∧ Sub H H2 ∧ H2 s = some (.lst (ns.map V.int)) ∧ H2 D = some (.lst (((ns.take (i + 1)).map absI).map V.int)), fun H2 hN2 => ⟨m - 1, by omega, hN2⟩, fun x H2 hy => ?_⟩
      obtain ⟨rfl, hy2⟩ := hy
      have ex := hy2 _ (SqL.of h1)
      rw [hx] at ex
      cases ex
      refine ⟨rfl, ?_⟩
      show semE Γ K (.blt .abs [.var 1]) W0 _ H2 _
      refine ⟨_, rfl, _, rfl, ?_⟩
      refine ⟨_, h2, ?_, by omega, fun b o z => ?_, ?_, ?_⟩
      · rw [List.length_map, List.length_map, List.length_take]
        exact lineL (by omega)
      · rw [upd_ne (ne_of_none z hHD)]
        exact sb b o z
      · rw [upd_ne Ds]
        exact h1
      · have e2 : ns.take (i + 1) = ns.take i ++ [ns[i]] := by
          rw [List.take_add_one, List.getElem?_eq_getElem hi]
          rfl
        rw [upd_same, e2, List.map_append, List.map_append]
        rfl
    · refine .inl ⟨⟨_, SqL.of h1, by rw [List.length_map]; omega⟩, ?_⟩
      have et : ns.take i = ns := List.take_of_length_le (by omega)
      rw [et] at h2
      refine ⟨by show 4 ≤ sizeLine; decide, fun p hp => ?_⟩
      have pD : p ≠ D := fun z => by
        rw [z, h2] at hp
        cases hp
      refine q p D _ (fun b o z => ?_) ?_ hHD pD upd_same ?_
      · rw [upd_ne (ne_of_none (sb b o z) hp)]
        exact sb b o z
      · cases e : H p with
        | none => rfl
        | some o =>
          rw [sb p o e] at hp
          cases hp
      · rw [upd_ne pD.symm]
        exact h2
theorem obl_law {M : Nat → Mir} {d : Fd} {b : Nat} {rest : List CS} (hΓ : ∀ f vs H Q E, gam K M f vs H Q E → Γ f vs H Q E) (hb : d.body = .asg (.name 1) (.call b [.var 0]) :: rest) (hps : d.ps.length = 1) (hN : 2 ≤ d.N.length) (hbag : Γ b = spBag K) (hid : Γ d.id = spLaw K)
    (hrun : ∀ ns : List Int, ns.length ≤ 63 → ∃ β', evSs M rest (none :: some (.d .bag) :: List.replicate (d.N.length - 2) none) ⟨0, 1234567891, 0, ns.map absI⟩ = some (.ret (.bl true) β')) : Obl Γ K d := by
  intro vs H Q E h
  rw [hid] at h
  obtain ⟨a, ns, rfl, hS, hl, q⟩ := h
  refine ⟨by rw [hps]; rfl, ?_⟩
  rw [hb]
  refine w_cons (w_asg ?_)
  refine ⟨.ref a, by rw [start_get]; rfl, ?_⟩
  show Γ b _ _ _ _
  rw [hbag]
  refine ⟨a, ns, rfl, hS, hl, fun p C H' sb hp hC pC h1 h2 => ?_⟩
  obtain ⟨β', hev⟩ := hrun ns hl
  have hst : (start d.N [V.ref a]).set 1 (some (.ref p)) = some (.ref a) :: some (.ref p) :: List.replicate (d.N.length - 2) none := by
    rw [start_get]
    obtain ⟨n, hn⟩ : ∃ n, d.N.length = n + 2 := ⟨d.N.length - 2, by omega⟩
    rw [hn]
    show (some (V.ref a) :: List.replicate (n + 1) none).set 1 (some (.ref p)) = _
    rw [List.replicate_succ]
    rfl
  rw [hst]
  have R : Rel K p (upd (fun _ => none) C (.lst ((ns.map absI).map V.int))) H' (some (.ref a) :: some (.ref p) :: List.replicate (d.N.length - 2) none) (none :: some (.d .bag) :: List.replicate (d.N.length - 2) none) ⟨0, 1234567891, 0, ns.map absI⟩ (upd (fun _ => none) C (.lst ((ns.map absI).map V.int))) H' := by
    refine { len := by simp, sub := fun x o z => ?_, g0 := Sub.refl _, h0 := fun _ _ z _ => z, n0 := fun _ _ _ z => z, b0 := ⟨_, h1⟩, bag := ⟨⟨C, h1, upd_same⟩, ?_, Int.le_refl 0⟩, d := fun i y hi => ?_, o := fun i ys hi => ?_, inj := fun i j ys zs p hi => ?_ }
    · by_cases e : x = C
      · subst e
        rw [upd_same] at z
        cases z
        exact h2
      · rw [upd_ne e] at z
        cases z
    · rw [upd_ne pC]
    · match i, hi with
      | 1, hi =>
        cases hi
        exact ⟨.ref p, rfl, .bag⟩
      | i + 2, hi =>
        have hi' : (List.replicate (d.N.length - 2) (none : Option Sl))[i]? = some (some (.d y)) := hi
        rw [List.getElem?_replicate] at hi'
        split at hi' <;> cases hi'
    · match i, hi with
      | i + 2, hi =>
        have hi' : (List.replicate (d.N.length - 2) (none : Option Sl))[i]? = some (some (.own ys)) := hi
        rw [List.getElem?_replicate] at hi'
        split at hi' <;> cases hi'
    · match i, hi with
      | i + 2, hi =>
        have hi' : (List.replicate (d.N.length - 2) (none : Option Sl))[i]? = some (some (.own ys)) := hi
        rw [List.getElem?_replicate] at hi'
        split at hi' <;> cases hi'
  refine sndSs hΓ rest _ _ _ hev R _ _ ⟨(fun _ _ ho => nomatch ho), fun y β2 ho v G' H2 x' b' d' => ?_⟩
  cases ho
  cases d'
  exact q H2
end
end LT

namespace LT
open PySem PySem.Spec PyProof.Rows L2
def mx (i j : Int) : Int := if j > i then j else i
def mn (i j : Int) : Int := if j < i then j else i
def pkE (M : Nat → Mir) (a : CE) (env : Env) (β : BS) : Option (D × BS) := pk env a (evP M a env β) β
def kVar (β : BS) : Option (Option Sl) → Option (D × BS)
  | some (some (.d x)) => some (x, β)
  | _ => none
def kPk (β : BS) : Option (Option Sl) → Option (D × BS)
  | some (some (.d x)) => some (x, β)
  | some (some (.own x)) => some (.lst x, β)
  | _ => none
def kTup (o : Option (List D × BS)) : Option (D × BS) := o.bind fun r => if r.1.length ≤ 1000000 then some (.tup r.1, r.2) else none
def kLst (o : Option (List D × BS)) : Option (D × BS) := o.bind fun r => if r.1.length ≤ 1000000 then some (.lst r.1, r.2) else none
def kD (β : BS) (o : Option D) : Option (D × BS) := o.map (·, β)
def kBl (β : BS) (o : Option Bool) : Option (D × BS) := o.map (.bl ·, β)
def kTt (β : BS) (o : Option Bool) : Option (Bool × BS) := o.map (·, β)
def kBin2 (op : Operator) (x : D) (o : Option (D × BS)) : Option (D × BS) := o.bind fun q => (dBin op x q.1).map (·, q.2)
def kBin1 (M : Nat → Mir) (op : Operator) (b : CE) (env : Env) (o : Option (D × BS)) : Option (D × BS) := o.bind fun r => kBin2 op r.1 (pkE M b env r.2)
def kNeg (o : Option (D × BS)) : Option (D × BS) := o.bind fun r => match r.1 with
    | .int i => some (.int (-i), r.2)
    | _ => none
def kNotV (o : Option (D × BS)) : Option (D × BS) := o.bind fun r => (dTru r.1).map fun t => (.bl (!t), r.2)
def kAnd2 (M : Nat → Mir) (b : CE) (env : Env) (x : D) (β : BS) (o : Option Bool) : Option (D × BS) := o.bind fun t => match t with
    | true => evP M b env β
    | false => some (x, β)
def kAndV (M : Nat → Mir) (b : CE) (env : Env) (o : Option (D × BS)) : Option (D × BS) := o.bind fun r => kAnd2 M b env r.1 r.2 (dTru r.1)
def kOr2 (M : Nat → Mir) (b : CE) (env : Env) (x : D) (β : BS) (o : Option Bool) : Option (D × BS) := o.bind fun t => match t with
    | true => some (x, β)
    | false => evP M b env β
def kOrV (M : Nat → Mir) (b : CE) (env : Env) (o : Option (D × BS)) : Option (D × BS) := o.bind fun r => kOr2 M b env r.1 r.2 (dTru r.1)
def kIte (M : Nat → Mir) (a b : CE) (env : Env) (o : Option (Bool × BS)) : Option (D × BS) := o.bind fun r => match r.1 with
    | true => evP M a env r.2
    | false => evP M b env r.2
def kCmp2 (op : CmpOp) (x : D) (o : Option (D × BS)) : Option (D × BS) := o.bind fun q => kBl q.2 (dCmp op x q.1)
def kCmp1 (M : Nat → Mir) (op : CmpOp) (b : CE) (env : Env) (o : Option (D × BS)) : Option (D × BS) := o.bind fun r => kCmp2 op r.1 (pkE M b env r.2)
def kCh4 (o2 : CmpOp) (y : D) (o : Option (D × BS)) : Option (D × BS) := o.bind fun z => kBl z.2 (dCmp o2 y z.1)
def kCh3 (M : Nat → Mir) (o2 : CmpOp) (c : CE) (env : Env) (y : D) (β : BS) (o : Option Bool) : Option (D × BS) := o.bind fun t => match t with
    | true => kCh4 o2 y (evP M c env β)
    | false => some (.bl false, β)
def kCh2 (M : Nat → Mir) (o1 o2 : CmpOp) (c : CE) (env : Env) (x : D) (o : Option (D × BS)) : Option (D × BS) := o.bind fun q => kCh3 M o2 c env q.1 q.2 (dCmp o1 x q.1)
def kCh1 (M : Nat → Mir) (o1 o2 : CmpOp) (b c : CE) (env : Env) (o : Option (D × BS)) : Option (D × BS) := o.bind fun r => kCh2 M o1 o2 c env r.1 (evP M b env r.2)
def kCall (M : Nat → Mir) (f : Nat) (o : Option (List D × BS)) : Option (D × BS) := o.bind fun r => M f r.1 r.2
def kBlt (b : Bt) (o : Option (List D × BS)) : Option (D × BS) := o.bind fun r => kD r.2 (dBlt b r.1)
def kIx2 (x : D) (o : Option (D × BS)) : Option (D × BS) := o.bind fun q => kD q.2 (dIx x q.1)
def kIx1 (M : Nat → Mir) (b : CE) (env : Env) (o : Option (D × BS)) : Option (D × BS) := o.bind fun r => kIx2 r.1 (evP M b env r.2)
def kSlA (o : Option (D × BS)) : Option (D × BS) := o.bind fun r => kD r.2 (dSl r.1 none none)
def kSlF2 (x : D) (o : Option (D × BS)) : Option (D × BS) := o.bind fun q => (dInt q.1).bind fun i => (dSl x (some i) none).map (·, q.2)
def kSlF1 (M : Nat → Mir) (b : CE) (env : Env) (o : Option (D × BS)) : Option (D × BS) := o.bind fun r => kSlF2 r.1 (evP M b env r.2)
def kSlT2 (x : D) (o : Option (D × BS)) : Option (D × BS) := o.bind fun q => (dInt q.1).bind fun i => (dSl x none (some i)).map (·, q.2)
def kSlT1 (M : Nat → Mir) (b : CE) (env : Env) (o : Option (D × BS)) : Option (D × BS) := o.bind fun r => kSlT2 r.1 (evP M b env r.2)
def kSl3 (x : D) (i : Int) (o : Option (D × BS)) : Option (D × BS) := o.bind fun z => (dInt z.1).bind fun j => (dSl x (some i) (some j)).map (·, z.2)
def kSl2 (M : Nat → Mir) (hi : CE) (env : Env) (x : D) (o : Option (D × BS)) : Option (D × BS) := o.bind fun q => (dInt q.1).bind fun i => kSl3 x i (evP M hi env q.2)
def kSl1 (M : Nat → Mir) (lo hi : CE) (env : Env) (o : Option (D × BS)) : Option (D × BS) := o.bind fun r => kSl2 M hi env r.1 (evP M lo env r.2)
def kRev (o : Option (D × BS)) : Option (D × BS) := o.bind fun r => match r.1 with
    | .lst xs => some (.lst xs.reverse, r.2)
    | _ => none
def lcF (M : Nat → Mir) (elt : CE) (tg : CT) (env : Env) (x : D) (β : BS) : Option (D × BS) := (bindT tg x env).bind fun e1 => evP M elt e1 β
def lcC (M : Nat → Mir) (c : CB) (tg : CT) (env : Env) (x : D) (β : BS) : Option (Bool × BS) := (bindT tg x env).bind fun e1 => evB M c e1 β
def kLcE (M : Nat → Mir) (elt : CE) (β : BS) (o : Option Env) : Option (D × BS) := o.bind fun e1 => evP M elt e1 β
def kLcC (M : Nat → Mir) (c : CB) (β : BS) (o : Option Env) : Option (Bool × BS) := o.bind fun e1 => evB M c e1 β
def kLc (M : Nat → Mir) (elt : CE) (tg : CT) (env : Env) (o : Option (List D × BS)) : Option (List D × BS) := o.bind fun r => if r.1.length ≤ 1000000 then mapE (lcF M elt tg env) r.1 r.2 else none
def kLcIf (M : Nat → Mir) (elt : CE) (tg : CT) (c : CB) (env : Env) (o : Option (List D × BS)) : Option (List D × BS) := o.bind fun r => if r.1.length ≤ 1000000 then mapIf (lcC M c tg env) (lcF M elt tg env) r.1 r.2 else none
def kL (o : Option (List D × BS)) : Option (D × BS) := o.map fun q => (.lst q.1, q.2)
def kG {α : Type} (b : Bool) (o : Option α) : Option α := match b with
  | true => o
  | false => none
def kA2 (x : D) (o : Option (List D × BS)) : Option (List D × BS) := o.map fun q => (x :: q.1, q.2)
def kA1 (M : Nat → Mir) (es : List CE) (env : Env) (o : Option (D × BS)) : Option (List D × BS) := o.bind fun r => kA2 r.1 (evA M es env r.2)
def kV1 (M : Nat → Mir) (es : List CE) (env : Env) (o : Option (D × BS)) : Option (List D × BS) := o.bind fun r => kA2 r.1 (evV M es env r.2)
def kNot (o : Option (Bool × BS)) : Option (Bool × BS) := o.map fun r => (!r.1, r.2)
def kAnd (M : Nat → Mir) (b : CB) (env : Env) (o : Option (Bool × BS)) : Option (Bool × BS) := o.bind fun r => match r.1 with
    | true => evB M b env r.2
    | false => some (false, r.2)
def kOr (M : Nat → Mir) (b : CB) (env : Env) (o : Option (Bool × BS)) : Option (Bool × BS) := o.bind fun r => match r.1 with
    | true => some (true, r.2)
    | false => evB M b env r.2
def kBc2 (op : CmpOp) (x : D) (o : Option (D × BS)) : Option (Bool × BS) := o.bind fun q => kTt q.2 (dCmp op x q.1)
def kBc1 (M : Nat → Mir) (op : CmpOp) (b : CE) (env : Env) (o : Option (D × BS)) : Option (Bool × BS) := o.bind fun r => kBc2 op r.1 (pkE M b env r.2)
def kBh4 (o2 : CmpOp) (y : D) (o : Option (D × BS)) : Option (Bool × BS) := o.bind fun z => kTt z.2 (dCmp o2 y z.1)
def kBh3 (M : Nat → Mir) (o2 : CmpOp) (c : CE) (env : Env) (y : D) (β : BS) (o : Option Bool) : Option (Bool × BS) := o.bind fun t => match t with
    | true => kBh4 o2 y (evP M c env β)
    | false => some (false, β)
def kBh2 (M : Nat → Mir) (o1 o2 : CmpOp) (c : CE) (env : Env) (x : D) (o : Option (D × BS)) : Option (Bool × BS) := o.bind fun q => kBh3 M o2 c env q.1 q.2 (dCmp o1 x q.1)
def kBh1 (M : Nat → Mir) (o1 o2 : CmpOp) (b c : CE) (env : Env) (o : Option (D × BS)) : Option (Bool × BS) := o.bind fun r => kBh2 M o1 o2 c env r.1 (evP M b env r.2)
def kTru (o : Option (D × BS)) : Option (Bool × BS) := o.bind fun r => kTt r.2 (dTru r.1)
def kSeq (o : Option (D × BS)) : Option (List D × BS) := o.bind fun r => match r.1 with
    | .lst xs => some (xs, r.2)
    | .tup xs => some (xs, r.2)
    | _ => none
def kR1 (o : Option (D × BS)) : Option (List D × BS) := o.bind fun r => match r.1 with
    | .int j => if -(2 ^ 62) ≤ j ∧ j < 2 ^ 62 then some (rangeD 0 j.toNat, r.2) else none
    | _ => none
def kR2b (x : D) (o : Option (D × BS)) : Option (List D × BS) := o.bind fun q => match x, q.1 with
    | .int i, .int j => if -(2 ^ 62) ≤ i ∧ i < 2 ^ 62 ∧ -(2 ^ 62) ≤ j ∧ j < 2 ^ 62 then some (rangeD i (j - i).toNat, q.2) else none
    | _, _ => none
def kR2 (M : Nat → Mir) (b : CE) (env : Env) (o : Option (D × BS)) : Option (List D × BS) := o.bind fun r => kR2b r.1 (evP M b env r.2)
def kEnum (o : Option (D × BS)) : Option (List D × BS) := o.bind fun r => match r.1 with
    | .lst xs => some (enumD xs, r.2)
    | _ => none
def kZip2 (x : D) (o : Option (D × BS)) : Option (List D × BS) := o.bind fun q => match x, q.1 with
    | .lst xs, .lst ys => some (zipD xs ys, q.2)
    | _, _ => none
def kZip (M : Nat → Mir) (b : CE) (env : Env) (o : Option (D × BS)) : Option (List D × BS) := o.bind fun r => kZip2 r.1 (pkE M b env r.2)
def kFl (o : Option (List D × BS)) : Option (List D × BS) := o.bind fun r => if r.1.length ≤ 1000000 then some r else none
def kFc2 (x : D) (o : Option (D × BS)) : Option (List D × BS) := o.bind fun q => match x, q.1 with
    | .lst xs, .lst ys => if xs.length + ys.length ≤ 1000000 then some (xs ++ ys, q.2) else none
    | _, _ => none
def kFc1 (M : Nat → Mir) (b : CE) (env : Env) (o : Option (D × BS)) : Option (List D × BS) := o.bind fun r => kFc2 r.1 (pkE M b env r.2)
def kOw (o : Option (List D × BS)) : Option (Sl × BS) := o.map fun r => (.own r.1, r.2)
def kNo (o : Option (D × BS)) : Option (Sl × BS) := o.map fun r => (.d r.1, r.2)
def kNx (β : BS) (o : Option Env) : Option Out := o.map fun e => .nx e β
def kAsg (t : CT) (env : Env) (o : Option (D × BS)) : Option Out := o.bind fun r => kNx r.2 (bindT t r.1 env)
def kAsgO (i : Nat) (env : Env) (o : Option (List D × BS)) : Option Out := o.map fun r => .nx (env.set i (some (.own r.1))) r.2
def kRet (o : Option (D × BS)) : Option Out := o.map fun r => .ret r.1 r.2
def kExp (env : Env) (o : Option (D × BS)) : Option Out := o.map fun r => .nx env r.2
def kIfS (M : Nat → Mir) (a b : List CS) (env : Env) (o : Option (Bool × BS)) : Option Out := o.bind fun r => match r.1 with
    | true => evSs M a env r.2
    | false => evSs M b env r.2
def kP2 (i j : Nat) (env : Env) (s : Sl) (o : Option (Sl × BS)) : Option Out := o.map fun q => .nx ((env.set i (some s)).set j (some q.1)) q.2
def kP1 (M : Nat → Mir) (oj : Bool) (i j : Nat) (b : CE) (env : Env) (o : Option (Sl × BS)) : Option Out := o.bind fun r => kP2 i j env r.1 (evO M oj b env r.2)
def kQ3 (i j l : Nat) (env : Env) (s t : Sl) (o : Option (Sl × BS)) : Option Out := o.map fun z => .nx (((env.set i (some s)).set j (some t)).set l (some z.1)) z.2
def kQ2 (M : Nat → Mir) (ol : Bool) (i j l : Nat) (c : CE) (env : Env) (s : Sl) (o : Option (Sl × BS)) : Option Out := o.bind fun q => kQ3 i j l env s q.1 (evO M ol c env q.2)
def kQ1 (M : Nat → Mir) (oj ol : Bool) (i j l : Nat) (b c : CE) (env : Env) (o : Option (Sl × BS)) : Option Out := o.bind fun r => kQ2 M ol i j l c env r.1 (evO M oj b env r.2)
def kAp2 (i : Nat) (env : Env) (xs : List D) (o : Option (D × BS)) : Option Out := o.bind fun r => if xs.length < 1000000 then some (.nx (env.set i (some (.own (xs ++ [r.1])))) r.2) else none
def kAp1 (M : Nat → Mir) (i : Nat) (a : CE) (env : Env) (β : BS) : Option (Option Sl) → Option Out
  | some (some (.own xs)) => kAp2 i env xs (evP M a env β)
  | _ => none
def kEx2 (i : Nat) (env : Env) (xs : List D) (o : Option (D × BS)) : Option Out := o.bind fun r => match r.1 with
        | .lst ys => if xs.length + ys.length ≤ 1000000 then some (.nx (env.set i (some (.own (xs ++ ys)))) r.2) else none
        | _ => none
def kEx1 (M : Nat → Mir) (i : Nat) (a : CE) (env : Env) (β : BS) : Option (Option Sl) → Option Out
  | some (some (.own xs)) => kEx2 i env xs (evP M a env β)
  | _ => none
def kAu2 (i : Nat) (op : Operator) (env : Env) (x : Int) (o : Option (D × BS)) : Option Out := o.bind fun r => match op, r.1 with
      | .Add, .int y => some (.nx (env.set i (some (.d (.int (x + y))))) r.2)
      | .Sub, .int y => some (.nx (env.set i (some (.d (.int (x - y))))) r.2)
      | _, _ => none
def kAu1 (M : Nat → Mir) (i : Nat) (op : Operator) (e : CE) (env : Env) (β : BS) : Option (Option Sl) → Option Out
  | some (some (.d (.int x))) => kAu2 i op env x (evP M e env β)
  | _ => none
def kSx3 (i : Nat) (env : Env) (xs : List D) (x : D) (o : Option (D × BS)) : Option Out := o.bind fun q => match q.1 with
        | .int k => (ixN xs.length k).map fun j => .nx (env.set i (some (.own (xs.set j x)))) q.2
        | _ => none
def kSx2 (M : Nat → Mir) (i : Nat) (a : CE) (env : Env) (xs : List D) (o : Option (D × BS)) : Option Out := o.bind fun r => kSx3 i env xs r.1 (evP M a env r.2)
def kSx1 (M : Nat → Mir) (i : Nat) (a e : CE) (env : Env) (β : BS) : Option (Option Sl) → Option Out
  | some (some (.own xs)) => kSx2 M i a env xs (evP M e env β)
  | _ => none
def kFor (M : Nat → Mir) (t : CT) (body : List CS) (env : Env) (o : Option (List D × BS)) : Option Out := o.bind fun r => forE t (evSs M body) r.1 env r.2
def kSs (M : Nat → Mir) (ss : List CS) (o : Option Out) : Option Out := o.bind fun o => match o with
    | .nx e1 β1 => evSs M ss e1 β1
    | .ret x β1 => some (.ret x β1)
def kFd (o : Option Out) : Option (D × BS) := o.map fun o => match o with
    | .nx _ β1 => (.non, β1)
    | .ret x β1 => (x, β1)
def kBT (ts : List CT) (xs : List D) (o : Option Env) : Option Env := o.bind (bindTs ts xs)
def isVar : CE → Bool
  | .var _ => true
  | _ => false
theorem pkE_of (M : Nat → Mir) (a : CE) (env : Env) (β : BS) (h : isVar a = false) : pkE M a env β = evP M a env β := by
  cases a <;> first | rfl | cases h
theorem pkE_var (M : Nat → Mir) (i : Nat) (env : Env) (β : BS) : pkE M (.var i) env β = kPk β env[i]? := by
  unfold pkE pk peek kPk
  simp only [evP]
  cases env[i]? with
  | none => rfl
  | some o => cases o with
    | none => rfl
    | some s => cases s <;> rfl
theorem evP_var (M : Nat → Mir) (i : Nat) (env : Env) (β : BS) : evP M (.var i) env β = kVar β env[i]? := by
  simp only [evP]
  unfold kVar
  cases env[i]? with
  | none => rfl
  | some o => cases o with
    | none => rfl
    | some s => cases s <;> rfl
theorem evS_ap (M : Nat → Mir) (i : Nat) (a : CE) (env : Env) (β : BS) : evS M (.expr (.bm .append (.var i) [a])) env β = kAp1 M i a env β env[i]? := by
  simp only [evS]
  unfold kAp1
  cases env[i]? with
  | none => rfl
  | some o => cases o with
    | none => rfl
    | some s => cases s <;> rfl
theorem evS_ex (M : Nat → Mir) (i : Nat) (a : CE) (env : Env) (β : BS) : evS M (.expr (.bm .extend (.var i) [a])) env β = kEx1 M i a env β env[i]? := by
  simp only [evS]
  unfold kEx1
  cases env[i]? with
  | none => rfl
  | some o => cases o with
    | none => rfl
    | some s => cases s <;> rfl
theorem evS_aug (M : Nat → Mir) (i : Nat) (op : Operator) (a : CE) (env : Env) (β : BS) : evS M (.aug i op a) env β = kAu1 M i op a env β env[i]? := by
  simp only [evS]
  unfold kAu1
  cases env[i]? with
  | none => rfl
  | some o => cases o with
    | none => rfl
    | some s => cases s with
      | own x => rfl
      | d x => cases x <;> rfl
theorem evS_set (M : Nat → Mir) (i : Nat) (a e : CE) (env : Env) (β : BS) : evS M (.setIx (.var i) a e) env β = kSx1 M i a e env β env[i]? := by
  simp only [evS]
  unfold kSx1
  cases env[i]? with
  | none => rfl
  | some o => cases o with
    | none => rfl
    | some s => cases s <;> rfl
theorem evS_for (M : Nat → Mir) (t : CT) (it : CI) (body : List CS) (env : Env) (β : BS) : evS M (.forS t it body) env β = kG (noPk env it) (kFor M t body env (evI M it env β)) := by
  simp only [evS]
  unfold kG
  cases noPk env it <;> rfl
theorem lc_eq (M : Nat → Mir) (elt : CE) (tg : CT) (it : CI) (own : List (Str × Nat)) (env : Env) (β : BS) : evP M (.lc elt tg it own) env β = kG (tgIn tg own && noOwn env own) (kL (kLc M elt tg (wipeE env (own.map (·.2))) (evI M it env β))) := by
  simp only [evP]
  unfold kG kL kLc
  cases tgIn tg own && noOwn env own with
  | false => rfl
  | true =>
    cases evI M it env β with
    | none => rfl
    | some r =>
      show (if r.1.length ≤ 1000000 then _ else _) = Option.map _ (if r.1.length ≤ 1000000 then _ else _)
      split <;> rfl
theorem lcIf_eq (M : Nat → Mir) (elt : CE) (tg : CT) (it : CI) (c : CB) (own : List (Str × Nat)) (env : Env) (β : BS) : evP M (.lcIf elt tg it c own) env β = kG (tgIn tg own && noOwn env own) (kL (kLcIf M elt tg c (wipeE env (own.map (·.2))) (evI M it env β))) := by
  simp only [evP]
  unfold kG kL kLcIf
  cases tgIn tg own && noOwn env own with
  | false => rfl
  | true =>
    cases evI M it env β with
    | none => rfl
    | some r =>
      show (if r.1.length ≤ 1000000 then _ else _) = Option.map _ (if r.1.length ≤ 1000000 then _ else _)
      split <;> rfl
theorem flc_eq (M : Nat → Mir) (elt : CE) (tg : CT) (it : CI) (own : List (Str × Nat)) (env : Env) (β : BS) : evF M (.lc elt tg it own) env β = kG (tgIn tg own && noOwn env own) (kLc M elt tg (wipeE env (own.map (·.2))) (evI M it env β)) := by
  simp only [evF]
  unfold kG kLc
  cases tgIn tg own && noOwn env own <;> rfl
theorem flcIf_eq (M : Nat → Mir) (elt : CE) (tg : CT) (it : CI) (c : CB) (own : List (Str × Nat)) (env : Env) (β : BS) : evF M (.lcIf elt tg it c own) env β = kG (tgIn tg own && noOwn env own) (kLcIf M elt tg c (wipeE env (own.map (·.2))) (evI M it env β)) := by
  simp only [evF]
  unfold kG kLcIf
  cases tgIn tg own && noOwn env own <;> rfl
end LT

namespace LT
open PySem PySem.Spec PyProof.Rows L2
theorem atI_cons0 {α : Type} (x : α) (xs : List α) : atI (x :: xs) 0 = some x := atI_nat (xs := x :: xs) (j := 0) rfl
theorem atI_cons1 {α : Type} (a b : α) (xs : List α) : atI (a :: b :: xs) 1 = some b := atI_nat (xs := a :: b :: xs) (j := 1) rfl
theorem atI_cons2 {α : Type} (a b c : α) (xs : List α) : atI (a :: b :: c :: xs) 2 = some c := atI_nat (xs := a :: b :: c :: xs) (j := 2) rfl
theorem atI_cons3 {α : Type} (a b c d : α) (xs : List α) : atI (a :: b :: c :: d :: xs) 3 = some d := atI_nat (xs := a :: b :: c :: d :: xs) (j := 3) rfl
theorem atI_cons4 {α : Type} (a b c d e : α) (xs : List α) : atI (a :: b :: c :: d :: e :: xs) 4 = some e := atI_nat (xs := a :: b :: c :: d :: e :: xs) (j := 4) rfl
def notOwn : Option (Option Sl) → Bool
  | some (some (.own _)) => false
  | _ => true
def kFz (i : Nat) (env : Env) : Option (Option Sl) → Env
  | some (some (.own xs)) => env.set i (some (.d (.lst xs)))
  | _ => env
theorem noOwn_eq (env : Env) (s : Str) (i : Nat) (own : List (Str × Nat)) : noOwn env ((s, i) :: own) = (notOwn env[i]? && noOwn env own) := rfl
theorem frz_eq (i : Nat) (is : List Nat) (env : Env) : frz (i :: is) env = frz is (kFz i env env[i]?) := by
  show frz is (frz1 i env) = frz is (kFz i env env[i]?)
  congr 1
theorem peek_no (env : Env) (i : Nat) : (peek env (.var i)).isNone = notOwn env[i]? := by
  simp only [peek]
  cases env[i]? with
  | none => rfl
  | some o => cases o with
    | none => rfl
    | some s => cases s <;> rfl
theorem notOwn_map (o : Option D) : notOwn (some (o.map .d)) = true := by
  cases o <;> rfl
theorem noPk1 (env : Env) (i : Nat) : noPk env (.seq (.var i)) = notOwn env[i]? := peek_no env i
theorem noPk2 (env : Env) (i : Nat) : noPk env (.enum (.var i)) = notOwn env[i]? := peek_no env i
theorem noPk3 (env : Env) (i j : Nat) : noPk env (.zip (.var i) (.var j)) = (notOwn env[i]? && notOwn env[j]?) := by
  show ((peek env (.var i)).isNone && (peek env (.var j)).isNone) = _
  rw [peek_no, peek_no]
theorem ev :
    (∀ (M : Nat → Mir) (i : Nat) (env : Env) (β : BS), evP M (.var i) env β = kVar β env[i]?) ∧
    (∀ (M : Nat → Mir) (i : Nat) (env : Env) (β : BS), pkE M (.var i) env β = kPk β env[i]?) ∧
    (∀ (M : Nat → Mir) (env : Env) (β : BS) (i : Int), evP M (.cst (.int i)) env β = some (.int i, β)) ∧
    (∀ (M : Nat → Mir) (env : Env) (β : BS) (i : Bool), evP M (.cst (.bool i)) env β = some (.bl i, β)) ∧
    (∀ (M : Nat → Mir) (env : Env) (β : BS) , evP M (.cst (.none)) env β = some (.non, β)) ∧
    (∀ (M : Nat → Mir) (env : Env) (β : BS) (i : Str), evP M (.cst (.str i)) env β = some (.str i, β)) ∧
    (∀ (M : Nat → Mir) (env : Env) (β : BS) (es : List CE), evP M (.tup es) env β = kTup (evA M es env β)) ∧
    (∀ (M : Nat → Mir) (env : Env) (β : BS) (es : List CE), evP M (.lst es) env β = kLst (evA M es env β)) ∧
    (∀ (M : Nat → Mir) (env : Env) (β : BS) (op : Operator) (a b : CE), evP M (.bin op a b) env β = kBin1 M op b env (pkE M a env β)) ∧
    (∀ (M : Nat → Mir) (env : Env) (β : BS) (a : CE), evP M (.neg a) env β = kNeg (evP M a env β)) ∧
    (∀ (M : Nat → Mir) (env : Env) (β : BS) (a : CE), evP M (.notV a) env β = kNotV (pkE M a env β)) ∧
    (∀ (M : Nat → Mir) (env : Env) (β : BS) (a b : CE), evP M (.andV a b) env β = kAndV M b env (evP M a env β)) ∧
    (∀ (M : Nat → Mir) (env : Env) (β : BS) (a b : CE), evP M (.orV a b) env β = kOrV M b env (evP M a env β)) ∧
    (∀ (M : Nat → Mir) (env : Env) (β : BS) (c : CB) (a b : CE), evP M (.ite c a b) env β = kIte M a b env (evB M c env β)) ∧
    (∀ (M : Nat → Mir) (env : Env) (β : BS) (op : CmpOp) (a b : CE), evP M (.cmp op a b) env β = kCmp1 M op b env (pkE M a env β)) ∧
    (∀ (M : Nat → Mir) (env : Env) (β : BS) (o1 o2 : CmpOp) (a b c : CE), evP M (.chain o1 o2 a b c) env β = kCh1 M o1 o2 b c env (evP M a env β)) ∧
    (∀ (M : Nat → Mir) (env : Env) (β : BS) (f : Nat) (es : List CE), evP M (.call f es) env β = kCall M f (evA M es env β)) ∧
    (∀ (M : Nat → Mir) (env : Env) (β : BS) (f : Bt) (es : List CE), evP M (.blt f es) env β = kBlt f (evV M es env β)) ∧
    (∀ (M : Nat → Mir) (env : Env) (β : BS) (a b : CE), evP M (.ix a b) env β = kIx1 M b env (pkE M a env β)) ∧
    (∀ (M : Nat → Mir) (env : Env) (β : BS) (a : CE), evP M (.slA a) env β = kSlA (pkE M a env β)) ∧
    (∀ (M : Nat → Mir) (env : Env) (β : BS) (a b : CE), evP M (.slF a b) env β = kSlF1 M b env (pkE M a env β)) ∧
    (∀ (M : Nat → Mir) (env : Env) (β : BS) (a b : CE), evP M (.slT a b) env β = kSlT1 M b env (pkE M a env β)) ∧
    (∀ (M : Nat → Mir) (env : Env) (β : BS) (a b c : CE), evP M (.slFT a b c) env β = kSl1 M b c env (pkE M a env β)) ∧
    (∀ (M : Nat → Mir) (env : Env) (β : BS) (a : CE), evP M (.rev a) env β = kRev (pkE M a env β)) ∧
    (∀ (M : Nat → Mir) (elt : CE) (tg : CT) (it : CI) (own : List (Str × Nat)) (env : Env) (β : BS), evP M (.lc elt tg it own) env β = kG (tgIn tg own && noOwn env own) (kL (kLc M elt tg (wipeE env (own.map (·.2))) (evI M it env β)))) ∧
    (∀ (M : Nat → Mir) (elt : CE) (tg : CT) (it : CI) (c : CB) (own : List (Str × Nat)) (env : Env) (β : BS), evP M (.lcIf elt tg it c own) env β = kG (tgIn tg own && noOwn env own) (kL (kLcIf M elt tg c (wipeE env (own.map (·.2))) (evI M it env β)))) ∧
    (∀ (M : Nat → Mir) (elt : CE) (tg : CT) (it : CI) (own : List (Str × Nat)) (env : Env) (β : BS), evF M (.lc elt tg it own) env β = kG (tgIn tg own && noOwn env own) (kLc M elt tg (wipeE env (own.map (·.2))) (evI M it env β))) ∧
    (∀ (M : Nat → Mir) (elt : CE) (tg : CT) (it : CI) (c : CB) (own : List (Str × Nat)) (env : Env) (β : BS), evF M (.lcIf elt tg it c own) env β = kG (tgIn tg own && noOwn env own) (kLcIf M elt tg c (wipeE env (own.map (·.2))) (evI M it env β))) ∧
    (∀ (M : Nat → Mir) (env : Env) (β : BS) (c : Const), pkE M (.cst c) env β = evP M (.cst c) env β) ∧
    (∀ (M : Nat → Mir) (env : Env) (β : BS) (es : List CE), pkE M (.tup es) env β = evP M (.tup es) env β) ∧
    (∀ (M : Nat → Mir) (env : Env) (β : BS) (es : List CE), pkE M (.lst es) env β = evP M (.lst es) env β) ∧
    (∀ (M : Nat → Mir) (env : Env) (β : BS) (op : Operator) (a b : CE), pkE M (.bin op a b) env β = evP M (.bin op a b) env β) ∧
    (∀ (M : Nat → Mir) (env : Env) (β : BS) (a : CE), pkE M (.neg a) env β = evP M (.neg a) env β) ∧
    (∀ (M : Nat → Mir) (env : Env) (β : BS) (a : CE), pkE M (.notV a) env β = evP M (.notV a) env β) ∧
    (∀ (M : Nat → Mir) (env : Env) (β : BS) (a b : CE), pkE M (.andV a b) env β = evP M (.andV a b) env β) ∧
    (∀ (M : Nat → Mir) (env : Env) (β : BS) (a b : CE), pkE M (.orV a b) env β = evP M (.orV a b) env β) ∧
    (∀ (M : Nat → Mir) (env : Env) (β : BS) (c : CB) (a b : CE), pkE M (.ite c a b) env β = evP M (.ite c a b) env β) ∧
    (∀ (M : Nat → Mir) (env : Env) (β : BS) (op : CmpOp) (a b : CE), pkE M (.cmp op a b) env β = evP M (.cmp op a b) env β) ∧
    (∀ (M : Nat → Mir) (env : Env) (β : BS) (o1 o2 : CmpOp) (a b c : CE), pkE M (.chain o1 o2 a b c) env β = evP M (.chain o1 o2 a b c) env β) ∧
    (∀ (M : Nat → Mir) (env : Env) (β : BS) (f : Nat) (es : List CE), pkE M (.call f es) env β = evP M (.call f es) env β) ∧
    (∀ (M : Nat → Mir) (env : Env) (β : BS) (f : Bt) (es : List CE), pkE M (.blt f es) env β = evP M (.blt f es) env β) ∧
    (∀ (M : Nat → Mir) (env : Env) (β : BS) (a b : CE), pkE M (.ix a b) env β = evP M (.ix a b) env β) ∧
    (∀ (M : Nat → Mir) (env : Env) (β : BS) (a : CE), pkE M (.slA a) env β = evP M (.slA a) env β) ∧
    (∀ (M : Nat → Mir) (env : Env) (β : BS) (a b : CE), pkE M (.slF a b) env β = evP M (.slF a b) env β) ∧
    (∀ (M : Nat → Mir) (env : Env) (β : BS) (a b : CE), pkE M (.slT a b) env β = evP M (.slT a b) env β) ∧
    (∀ (M : Nat → Mir) (env : Env) (β : BS) (a b c : CE), pkE M (.slFT a b c) env β = evP M (.slFT a b c) env β) ∧
    (∀ (M : Nat → Mir) (env : Env) (β : BS) (a : CE), pkE M (.rev a) env β = evP M (.rev a) env β) ∧
    (∀ (M : Nat → Mir) (env : Env) (β : BS) (elt : CE) (tg : CT) (it : CI) (own : List (Str × Nat)), pkE M (.lc elt tg it own) env β = evP M (.lc elt tg it own) env β) ∧
    (∀ (M : Nat → Mir) (env : Env) (β : BS) (elt : CE) (tg : CT) (it : CI) (c : CB) (own : List (Str × Nat)), pkE M (.lcIf elt tg it c own) env β = evP M (.lcIf elt tg it c own) env β) ∧
    (∀ (M : Nat → Mir) (env : Env) (β : BS) , evA M [] env β = some ([], β)) ∧
    (∀ (M : Nat → Mir) (env : Env) (β : BS) (a : CE) (es : List CE), evA M (a :: es) env β = kA1 M es env (evP M a env β)) ∧
    (∀ (M : Nat → Mir) (env : Env) (β : BS) , evV M [] env β = some ([], β)) ∧
    (∀ (M : Nat → Mir) (env : Env) (β : BS) (a : CE) (es : List CE), evV M (a :: es) env β = kV1 M es env (pkE M a env β)) ∧
    (∀ (M : Nat → Mir) (env : Env) (β : BS) (a : CB), evB M (.not a) env β = kNot (evB M a env β)) ∧
    (∀ (M : Nat → Mir) (env : Env) (β : BS) (a b : CB), evB M (.and a b) env β = kAnd M b env (evB M a env β)) ∧
    (∀ (M : Nat → Mir) (env : Env) (β : BS) (a b : CB), evB M (.or a b) env β = kOr M b env (evB M a env β)) ∧
    (∀ (M : Nat → Mir) (env : Env) (β : BS) (op : CmpOp) (a b : CE), evB M (.cmp op a b) env β = kBc1 M op b env (pkE M a env β)) ∧
    (∀ (M : Nat → Mir) (env : Env) (β : BS) (o1 o2 : CmpOp) (a b c : CE), evB M (.chain o1 o2 a b c) env β = kBh1 M o1 o2 b c env (evP M a env β)) ∧
    (∀ (M : Nat → Mir) (env : Env) (β : BS) (a : CE), evB M (.tru a) env β = kTru (pkE M a env β)) ∧
    (∀ (M : Nat → Mir) (env : Env) (β : BS) (a : CE), evI M (.seq a) env β = kSeq (pkE M a env β)) ∧
    (∀ (M : Nat → Mir) (env : Env) (β : BS) (a : CE), evI M (.rng1 a) env β = kR1 (evP M a env β)) ∧
    (∀ (M : Nat → Mir) (env : Env) (β : BS) (a b : CE), evI M (.rng2 a b) env β = kR2 M b env (evP M a env β)) ∧
    (∀ (M : Nat → Mir) (env : Env) (β : BS) (a : CE), evI M (.enum a) env β = kEnum (pkE M a env β)) ∧
    (∀ (M : Nat → Mir) (env : Env) (β : BS) (a b : CE), evI M (.zip a b) env β = kZip M b env (pkE M a env β)) ∧
    (∀ (M : Nat → Mir) (env : Env) (β : BS) (es : List CE), evF M (.lst es) env β = kFl (evA M es env β)) ∧
    (∀ (M : Nat → Mir) (env : Env) (β : BS) (a : CE), evF M (.blt .list [a]) env β = kSeq (pkE M a env β)) ∧
    (∀ (M : Nat → Mir) (env : Env) (β : BS) (a b : CE), evF M (.bin .Add a b) env β = kFc1 M b env (pkE M a env β)) ∧
    (∀ (M : Nat → Mir) (env : Env) (β : BS) (a : CE), evO M true a env β = kOw (evF M a env β)) ∧
    (∀ (M : Nat → Mir) (env : Env) (β : BS) (a : CE), evO M false a env β = kNo (evP M a env β)) ∧
    (∀ (M : Nat → Mir) (env : Env) (β : BS) , evS M .pass env β = some (.nx env β)) ∧
    (∀ (M : Nat → Mir) (env : Env) (β : BS) (is : List Nat), evS M (.fz is) env β = some (.nx (frz is env) β)) ∧
    (∀ (M : Nat → Mir) (i : Nat) (a : CE) (env : Env) (β : BS), evS M (.expr (.bm .append (.var i) [a])) env β = kAp1 M i a env β env[i]?) ∧
    (∀ (M : Nat → Mir) (i : Nat) (a : CE) (env : Env) (β : BS), evS M (.expr (.bm .extend (.var i) [a])) env β = kEx1 M i a env β env[i]?) ∧
    (∀ (M : Nat → Mir) (env : Env) (β : BS) (f : Nat) (es : List CE), evS M (.expr (.call f es)) env β = kExp env (evP M (.call f es) env β)) ∧
    (∀ (M : Nat → Mir) (env : Env) (β : BS) (a : CE), evS M (.ret a) env β = kRet (evP M a env β)) ∧
    (∀ (M : Nat → Mir) (env : Env) (β : BS) , evS M .retN env β = some (.ret .non β)) ∧
    (∀ (M : Nat → Mir) (env : Env) (β : BS) (c : CB) (a b : List CS), evS M (.ifs c a b) env β = kIfS M a b env (evB M c env β)) ∧
    (∀ (M : Nat → Mir) (env : Env) (β : BS) (t : CT) (a : CE), evS M (.asg t a) env β = kAsg t env (evP M a env β)) ∧
    (∀ (M : Nat → Mir) (env : Env) (β : BS) (i : Nat) (a : CE), evS M (.asgO i a) env β = kAsgO i env (evF M a env β)) ∧
    (∀ (M : Nat → Mir) (env : Env) (β : BS) (oi oj : Bool) (i j : Nat) (a b : CE), evS M (.par2 oi oj i j a b) env β = kP1 M oj i j b env (evO M oi a env β)) ∧
    (∀ (M : Nat → Mir) (env : Env) (β : BS) (oi oj ol : Bool) (i j l : Nat) (a b c : CE), evS M (.par3 oi oj ol i j l a b c) env β = kQ1 M oj ol i j l b c env (evO M oi a env β)) ∧
    (∀ (M : Nat → Mir) (i : Nat) (op : Operator) (a : CE) (env : Env) (β : BS), evS M (.aug i op a) env β = kAu1 M i op a env β env[i]?) ∧
    (∀ (M : Nat → Mir) (i : Nat) (a e : CE) (env : Env) (β : BS), evS M (.setIx (.var i) a e) env β = kSx1 M i a e env β env[i]?) ∧
    (∀ (M : Nat → Mir) (t : CT) (it : CI) (body : List CS) (env : Env) (β : BS), evS M (.forS t it body) env β = kG (noPk env it) (kFor M t body env (evI M it env β))) ∧
    (∀ (M : Nat → Mir) (env : Env) (β : BS) , evSs M [] env β = some (.nx env β)) ∧
    (∀ (M : Nat → Mir) (env : Env) (β : BS) (s : CS) (ss : List CS), evSs M (s :: ss) env β = kSs M ss (evS M s env β)) ∧
    (∀ (β : BS) (x : D), kVar β (some (some (.d x))) = some (x, β)) ∧
    (∀ (β : BS) (x : D), kPk β (some (some (.d x))) = some (x, β)) ∧
    (∀ (β : BS) (x : List D), kPk β (some (some (.own x))) = some (.lst x, β)) ∧
    (∀ (β : BS) (x : List D), kTup (some (x, β)) = if x.length ≤ 1000000 then some (.tup x, β) else none) ∧
    (∀ (β : BS) (x : List D), kLst (some (x, β)) = if x.length ≤ 1000000 then some (.lst x, β) else none) ∧
    (∀ (β : BS) (x : D), kD β (some x) = some (x, β)) ∧
    (∀ (β : BS) (x : Bool), kBl β (some x) = some (.bl x, β)) ∧
    (∀ (β : BS) (x : Bool), kTt β (some x) = some (x, β)) ∧
    (∀ (op : Operator) (x y : D) (β : BS), kBin2 op x (some (y, β)) = kD β (dBin op x y)) ∧
    (∀ (M : Nat → Mir) (op : Operator) (b : CE) (env : Env) (x : D) (β : BS), kBin1 M op b env (some (x, β)) = kBin2 op x (pkE M b env β)) ∧
    (∀ (i : Int) (β : BS), kNeg (some (.int i, β)) = some (.int (-i), β)) ∧
    (∀ (x : D) (β : BS), kNotV (some (x, β)) = (dTru x).map fun t => (.bl (!t), β)) ∧
    (∀ (M : Nat → Mir) (b : CE) (env : Env) (x : D) (β : BS), kAnd2 M b env x β (some true) = evP M b env β) ∧
    (∀ (M : Nat → Mir) (b : CE) (env : Env) (x : D) (β : BS), kAnd2 M b env x β (some false) = some (x, β)) ∧
    (∀ (M : Nat → Mir) (b : CE) (env : Env) (x : D) (β : BS), kAndV M b env (some (x, β)) = kAnd2 M b env x β (dTru x)) ∧
    (∀ (M : Nat → Mir) (b : CE) (env : Env) (x : D) (β : BS), kOr2 M b env x β (some true) = some (x, β)) ∧
    (∀ (M : Nat → Mir) (b : CE) (env : Env) (x : D) (β : BS), kOr2 M b env x β (some false) = evP M b env β) ∧
    (∀ (M : Nat → Mir) (b : CE) (env : Env) (x : D) (β : BS), kOrV M b env (some (x, β)) = kOr2 M b env x β (dTru x)) ∧
    (∀ (M : Nat → Mir) (a b : CE) (env : Env) (β : BS), kIte M a b env (some (true, β)) = evP M a env β) ∧
    (∀ (M : Nat → Mir) (a b : CE) (env : Env) (β : BS), kIte M a b env (some (false, β)) = evP M b env β) ∧
    (∀ (op : CmpOp) (x y : D) (β : BS), kCmp2 op x (some (y, β)) = kBl β (dCmp op x y)) ∧
    (∀ (M : Nat → Mir) (op : CmpOp) (b : CE) (env : Env) (x : D) (β : BS), kCmp1 M op b env (some (x, β)) = kCmp2 op x (pkE M b env β)) ∧
    (∀ (op : CmpOp) (x y : D) (β : BS), kCh4 op x (some (y, β)) = kBl β (dCmp op x y)) ∧
    (∀ (M : Nat → Mir) (op : CmpOp) (c : CE) (env : Env) (y : D) (β : BS), kCh3 M op c env y β (some true) = kCh4 op y (evP M c env β)) ∧
    (∀ (M : Nat → Mir) (op : CmpOp) (c : CE) (env : Env) (y : D) (β : BS), kCh3 M op c env y β (some false) = some (.bl false, β)) ∧
    (∀ (M : Nat → Mir) (o1 o2 : CmpOp) (c : CE) (env : Env) (x y : D) (β : BS), kCh2 M o1 o2 c env x (some (y, β)) = kCh3 M o2 c env y β (dCmp o1 x y)) ∧
    (∀ (M : Nat → Mir) (o1 o2 : CmpOp) (b c : CE) (env : Env) (x : D) (β : BS), kCh1 M o1 o2 b c env (some (x, β)) = kCh2 M o1 o2 c env x (evP M b env β)) ∧
    (∀ (M : Nat → Mir) (f : Nat) (ds : List D) (β : BS), kCall M f (some (ds, β)) = M f ds β) ∧
    (∀ (f : Bt) (ds : List D) (β : BS), kBlt f (some (ds, β)) = kD β (dBlt f ds)) ∧
    (∀ (x y : D) (β : BS), kIx2 x (some (y, β)) = kD β (dIx x y)) ∧
    (∀ (M : Nat → Mir) (b : CE) (env : Env) (x : D) (β : BS), kIx1 M b env (some (x, β)) = kIx2 x (evP M b env β)) ∧
    (∀ (x : D) (β : BS), kSlA (some (x, β)) = kD β (dSl x none none)) ∧
    (∀ (x : D) (i : Int) (β : BS), kSlF2 x (some (.int i, β)) = kD β (dSl x (some i) none)) ∧
    (∀ (M : Nat → Mir) (b : CE) (env : Env) (x : D) (β : BS), kSlF1 M b env (some (x, β)) = kSlF2 x (evP M b env β)) ∧
    (∀ (x : D) (i : Int) (β : BS), kSlT2 x (some (.int i, β)) = kD β (dSl x none (some i))) ∧
    (∀ (M : Nat → Mir) (b : CE) (env : Env) (x : D) (β : BS), kSlT1 M b env (some (x, β)) = kSlT2 x (evP M b env β)) ∧
    (∀ (x : D) (i j : Int) (β : BS), kSl3 x i (some (.int j, β)) = kD β (dSl x (some i) (some j))) ∧
    (∀ (M : Nat → Mir) (b : CE) (env : Env) (x : D) (i : Int) (β : BS), kSl2 M b env x (some (.int i, β)) = kSl3 x i (evP M b env β)) ∧
    (∀ (M : Nat → Mir) (a b : CE) (env : Env) (x : D) (β : BS), kSl1 M a b env (some (x, β)) = kSl2 M b env x (evP M a env β)) ∧
    (∀ (xs : List D) (β : BS), kRev (some (.lst xs, β)) = some (.lst xs.reverse, β)) ∧
    (∀ (M : Nat → Mir) (elt : CE) (tg : CT) (env : Env) (x : D) (β : BS), lcF M elt tg env x β = kLcE M elt β (bindT tg x env)) ∧
    (∀ (M : Nat → Mir) (c : CB) (tg : CT) (env : Env) (x : D) (β : BS), lcC M c tg env x β = kLcC M c β (bindT tg x env)) ∧
    (∀ (M : Nat → Mir) (elt : CE) (env : Env) (β : BS), kLcE M elt β (some env) = evP M elt env β) ∧
    (∀ (M : Nat → Mir) (elt : CB) (env : Env) (β : BS), kLcC M elt β (some env) = evB M elt env β) ∧
    (∀ (M : Nat → Mir) (elt : CE) (tg : CT) (env : Env) (xs : List D) (β : BS), kLc M elt tg env (some (xs, β)) = if xs.length ≤ 1000000 then mapE (lcF M elt tg env) xs β else none) ∧
    (∀ (M : Nat → Mir) (elt : CE) (tg : CT) (c : CB) (env : Env) (xs : List D) (β : BS), kLcIf M elt tg c env (some (xs, β)) = if xs.length ≤ 1000000 then mapIf (lcC M c tg env) (lcF M elt tg env) xs β else none) ∧
    (∀ (xs : List D) (β : BS), kL (some (xs, β)) = some (.lst xs, β)) ∧
    (∀ {α : Type} (o : Option α), kG true o = o) ∧
    (∀ (x : D) (xs : List D) (β : BS), kA2 x (some (xs, β)) = some (x :: xs, β)) ∧
    (∀ (M : Nat → Mir) (es : List CE) (env : Env) (x : D) (β : BS), kA1 M es env (some (x, β)) = kA2 x (evA M es env β)) ∧
    (∀ (M : Nat → Mir) (es : List CE) (env : Env) (x : D) (β : BS), kV1 M es env (some (x, β)) = kA2 x (evV M es env β)) ∧
    (∀ (b : Bool) (β : BS), kNot (some (b, β)) = some (!b, β)) ∧
    (∀ (M : Nat → Mir) (b : CB) (env : Env) (β : BS), kAnd M b env (some (true, β)) = evB M b env β) ∧
    (∀ (M : Nat → Mir) (b : CB) (env : Env) (β : BS), kAnd M b env (some (false, β)) = some (false, β)) ∧
    (∀ (M : Nat → Mir) (b : CB) (env : Env) (β : BS), kOr M b env (some (true, β)) = some (true, β)) ∧
    (∀ (M : Nat → Mir) (b : CB) (env : Env) (β : BS), kOr M b env (some (false, β)) = evB M b env β) ∧
    (∀ (op : CmpOp) (x y : D) (β : BS), kBc2 op x (some (y, β)) = kTt β (dCmp op x y)) ∧
    (∀ (M : Nat → Mir) (op : CmpOp) (b : CE) (env : Env) (x : D) (β : BS), kBc1 M op b env (some (x, β)) = kBc2 op x (pkE M b env β)) ∧
    (∀ (op : CmpOp) (x y : D) (β : BS), kBh4 op x (some (y, β)) = kTt β (dCmp op x y)) ∧
    (∀ (M : Nat → Mir) (op : CmpOp) (c : CE) (env : Env) (y : D) (β : BS), kBh3 M op c env y β (some true) = kBh4 op y (evP M c env β)) ∧
    (∀ (M : Nat → Mir) (op : CmpOp) (c : CE) (env : Env) (y : D) (β : BS), kBh3 M op c env y β (some false) = some (false, β)) ∧
    (∀ (M : Nat → Mir) (o1 o2 : CmpOp) (c : CE) (env : Env) (x y : D) (β : BS), kBh2 M o1 o2 c env x (some (y, β)) = kBh3 M o2 c env y β (dCmp o1 x y)) ∧
    (∀ (M : Nat → Mir) (o1 o2 : CmpOp) (b c : CE) (env : Env) (x : D) (β : BS), kBh1 M o1 o2 b c env (some (x, β)) = kBh2 M o1 o2 c env x (evP M b env β)) ∧
    (∀ (x : D) (β : BS), kTru (some (x, β)) = kTt β (dTru x)) ∧
    (∀ (xs : List D) (β : BS), kSeq (some (.lst xs, β)) = some (xs, β)) ∧
    (∀ (xs : List D) (β : BS), kSeq (some (.tup xs, β)) = some (xs, β)) ∧
    (∀ (j : Int) (β : BS), kR1 (some (.int j, β)) = if -(2 ^ 62) ≤ j ∧ j < 2 ^ 62 then some (rangeD 0 j.toNat, β) else none) ∧
    (∀ (i j : Int) (β : BS), kR2b (.int i) (some (.int j, β)) = if -(2 ^ 62) ≤ i ∧ i < 2 ^ 62 ∧ -(2 ^ 62) ≤ j ∧ j < 2 ^ 62 then some (rangeD i (j - i).toNat, β) else none) ∧
    (∀ (M : Nat → Mir) (b : CE) (env : Env) (x : D) (β : BS), kR2 M b env (some (x, β)) = kR2b x (evP M b env β)) ∧
    (∀ (xs : List D) (β : BS), kEnum (some (.lst xs, β)) = some (enumD xs, β)) ∧
    (∀ (xs ys : List D) (β : BS), kZip2 (.lst xs) (some (.lst ys, β)) = some (zipD xs ys, β)) ∧
    (∀ (M : Nat → Mir) (b : CE) (env : Env) (x : D) (β : BS), kZip M b env (some (x, β)) = kZip2 x (pkE M b env β)) ∧
    (∀ (xs : List D) (β : BS), kFl (some (xs, β)) = if xs.length ≤ 1000000 then some (xs, β) else none) ∧
    (∀ (xs ys : List D) (β : BS), kFc2 (.lst xs) (some (.lst ys, β)) = if xs.length + ys.length ≤ 1000000 then some (xs ++ ys, β) else none) ∧
    (∀ (M : Nat → Mir) (b : CE) (env : Env) (x : D) (β : BS), kFc1 M b env (some (x, β)) = kFc2 x (pkE M b env β)) ∧
    (∀ (xs : List D) (β : BS), kOw (some (xs, β)) = some (.own xs, β)) ∧
    (∀ (x : D) (β : BS), kNo (some (x, β)) = some (.d x, β)) ∧
    (∀ (env : Env) (β : BS), kNx β (some env) = some (.nx env β)) ∧
    (∀ (t : CT) (env : Env) (x : D) (β : BS), kAsg t env (some (x, β)) = kNx β (bindT t x env)) ∧
    (∀ (i : Nat) (env : Env) (xs : List D) (β : BS), kAsgO i env (some (xs, β)) = some (.nx (env.set i (some (.own xs))) β)) ∧
    (∀ (x : D) (β : BS), kRet (some (x, β)) = some (.ret x β)) ∧
    (∀ (env : Env) (x : D) (β : BS), kExp env (some (x, β)) = some (.nx env β)) ∧
    (∀ (M : Nat → Mir) (a b : List CS) (env : Env) (β : BS), kIfS M a b env (some (true, β)) = evSs M a env β) ∧
    (∀ (M : Nat → Mir) (a b : List CS) (env : Env) (β : BS), kIfS M a b env (some (false, β)) = evSs M b env β) ∧
    (∀ (i j : Nat) (env : Env) (s t : Sl) (β : BS), kP2 i j env s (some (t, β)) = some (.nx ((env.set i (some s)).set j (some t)) β)) ∧
    (∀ (M : Nat → Mir) (oj : Bool) (i j : Nat) (b : CE) (env : Env) (s : Sl) (β : BS), kP1 M oj i j b env (some (s, β)) = kP2 i j env s (evO M oj b env β)) ∧
    (∀ (i j l : Nat) (env : Env) (s t u : Sl) (β : BS), kQ3 i j l env s t (some (u, β)) = some (.nx (((env.set i (some s)).set j (some t)).set l (some u)) β)) ∧
    (∀ (M : Nat → Mir) (ol : Bool) (i j l : Nat) (c : CE) (env : Env) (s t : Sl) (β : BS), kQ2 M ol i j l c env s (some (t, β)) = kQ3 i j l env s t (evO M ol c env β)) ∧
    (∀ (M : Nat → Mir) (oj ol : Bool) (i j l : Nat) (b c : CE) (env : Env) (s : Sl) (β : BS), kQ1 M oj ol i j l b c env (some (s, β)) = kQ2 M ol i j l c env s (evO M oj b env β)) ∧
    (∀ (i : Nat) (env : Env) (xs : List D) (x : D) (β : BS), kAp2 i env xs (some (x, β)) = if xs.length < 1000000 then some (.nx (env.set i (some (.own (xs ++ [x])))) β) else none) ∧
    (∀ (M : Nat → Mir) (i : Nat) (a : CE) (env : Env) (β : BS) (xs : List D), kAp1 M i a env β (some (some (.own xs))) = kAp2 i env xs (evP M a env β)) ∧
    (∀ (i : Nat) (env : Env) (xs ys : List D) (β : BS), kEx2 i env xs (some (.lst ys, β)) = if xs.length + ys.length ≤ 1000000 then some (.nx (env.set i (some (.own (xs ++ ys)))) β) else none) ∧
    (∀ (M : Nat → Mir) (i : Nat) (a : CE) (env : Env) (β : BS) (xs : List D), kEx1 M i a env β (some (some (.own xs))) = kEx2 i env xs (evP M a env β)) ∧
    (∀ (i : Nat) (env : Env) (x y : Int) (β : BS), kAu2 i .Add env x (some (.int y, β)) = some (.nx (env.set i (some (.d (.int (x + y))))) β)) ∧
    (∀ (i : Nat) (env : Env) (x y : Int) (β : BS), kAu2 i .Sub env x (some (.int y, β)) = some (.nx (env.set i (some (.d (.int (x - y))))) β)) ∧
    (∀ (M : Nat → Mir) (i : Nat) (op : Operator) (a : CE) (env : Env) (β : BS) (x : Int), kAu1 M i op a env β (some (some (.d (.int x)))) = kAu2 i op env x (evP M a env β)) ∧
    (∀ (i : Nat) (env : Env) (xs : List D) (x : D) (k : Int) (β : BS), kSx3 i env xs x (some (.int k, β)) = (ixN xs.length k).map fun j => .nx (env.set i (some (.own (xs.set j x)))) β) ∧
    (∀ (M : Nat → Mir) (i : Nat) (a : CE) (env : Env) (xs : List D) (x : D) (β : BS), kSx2 M i a env xs (some (x, β)) = kSx3 i env xs x (evP M a env β)) ∧
    (∀ (M : Nat → Mir) (i : Nat) (a e : CE) (env : Env) (β : BS) (xs : List D), kSx1 M i a e env β (some (some (.own xs))) = kSx2 M i a env xs (evP M e env β)) ∧
    (∀ (M : Nat → Mir) (t : CT) (body : List CS) (env : Env) (xs : List D) (β : BS), kFor M t body env (some (xs, β)) = forE t (evSs M body) xs env β) ∧
    (∀ (M : Nat → Mir) (ss : List CS) (env : Env) (β : BS), kSs M ss (some (.nx env β)) = evSs M ss env β) ∧
    (∀ (M : Nat → Mir) (ss : List CS) (x : D) (β : BS), kSs M ss (some (.ret x β)) = some (.ret x β)) ∧
    (∀ (env : Env) (β : BS), kFd (some (.nx env β)) = some (.non, β)) ∧
    (∀ (x : D) (β : BS), kFd (some (.ret x β)) = some (x, β)) ∧
    (∀ (ts : List CT) (xs : List D) (env : Env), kBT ts xs (some env) = bindTs ts xs env) ∧
    (∀ (i : Nat) (x : D) (env : Env), bindT (.name i) x env = some (env.set i (some (.d x)))) ∧
    (∀ (ts : List CT) (xs : List D) (env : Env), bindT (.tup ts) (.tup xs) env = bindTs ts xs env) ∧
    (∀ (ts : List CT) (xs : List D) (env : Env), bindT (.tup ts) (.lst xs) env = bindTs ts xs env) ∧
    (∀ (env : Env), bindTs [] [] env = some env) ∧
    (∀ (t : CT) (ts : List CT) (x : D) (xs : List D) (env : Env), bindTs (t :: ts) (x :: xs) env = kBT ts xs (bindT t x env)) ∧
    (∀ (x y : Int), dBin .Add (.int x) (.int y) = some (.int (x + y))) ∧
    (∀ (x y : Int), dBin .Sub (.int x) (.int y) = some (.int (x - y))) ∧
    (∀ (x y : List D), dBin .Add (.lst x) (.lst y) = if x.length + y.length ≤ 1000000 then some (.lst (x ++ y)) else none) ∧
    (∀ (x y : List D), dBin .Add (.tup x) (.tup y) = if x.length + y.length ≤ 1000000 then some (.tup (x ++ y)) else none) ∧
    (∀ (x y : Int), dBin .Mult (.int x) (.int y) = if (x.natAbs < big ∧ y.natAbs < big) ∨ x.natAbs < 2 ^ 64 ∨ y.natAbs < 2 ^ 64 then some (.int (x * y)) else none) ∧
    (∀ (x y : Int), dBin .FloorDiv (.int x) (.int y) = if 0 < y ∧ y.natAbs < big then some (.int (x / y)) else none) ∧
    (∀ (x y : Int), dBin .Mod (.int x) (.int y) = if 0 < y then some (.int (x % y)) else none) ∧
    (∀ (x y : Int), dBin .Pow (.int x) (.int y) = if 0 ≤ y ∧ y ≤ 1000 ∧ x.natAbs < 2 ^ 64 then some (.int (x ^ y.toNat)) else none) ∧
    (dTru .non = some false) ∧
    (∀ (b : Bool), dTru (.bl b) = some b) ∧
    (∀ (i : Int), dTru (.int i) = some (i != 0)) ∧
    (∀ (x : List D), dTru (.lst x) = some (!x.isEmpty)) ∧
    (∀ (x : List D), dTru (.tup x) = some (!x.isEmpty)) ∧
    (∀ (x y : D), dCmp .Eq x y = if x.ok 60 && y.ok 60 then some (D.eq x y) else none) ∧
    (∀ (x y : D), dCmp .NotEq x y = if x.ok 60 && y.ok 60 then some (!D.eq x y) else none) ∧
    (∀ (x y : Int), dCmp .Lt (.int x) (.int y) = some (decide (x < y))) ∧
    (∀ (x y : Int), dCmp .LtE (.int x) (.int y) = some (decide (x ≤ y))) ∧
    (∀ (x y : Int), dCmp .Gt (.int x) (.int y) = some (decide (y < x))) ∧
    (∀ (x y : Int), dCmp .GtE (.int x) (.int y) = some (decide (y ≤ x))) ∧
    (∀ (x : D), dCmp .Is x .non = some (isNon x)) ∧
    (∀ (x : D), dCmp .IsNot x .non = some (!isNon x)) ∧
    (∀ (x : D) (ys : List D), dCmp .In x (.lst ys) = if x.ok 60 && (D.lst ys).ok 60 then some (ys.any fun y => D.eq y x) else none) ∧
    (∀ (x : D) (ys : List D), dCmp .NotIn x (.lst ys) = if x.ok 60 && (D.lst ys).ok 60 then some (!ys.any fun y => D.eq y x) else none) ∧
    (∀ (x : List D), dBlt .len [.lst x] = some (.int x.length)) ∧
    (∀ (x : List D), dBlt .len [.tup x] = some (.int x.length)) ∧
    (∀ (i : Int), dBlt .abs [.int i] = some (.int (absI i))) ∧
    (∀ (i j : Int), dBlt .max [.int i, .int j] = some (.int (mx i j))) ∧
    (∀ (i j : Int), dBlt .min [.int i, .int j] = some (.int (mn i j))) ∧
    (∀ (i j k : Int), dBlt .max [.int i, .int j, .int k] = some (.int (max3 i j k))) ∧
    (∀ (i j k : Int), dBlt .min [.int i, .int j, .int k] = some (.int (min3 i j k))) ∧
    (∀ (i : Int), dBlt .int [.int i] = some (.int i)) ∧
    (∀ (i : Bool), dBlt .int [.bl i] = some (.int (if i then 1 else 0))) ∧
    (∀ (x : List D), dBlt .tuple [.lst x] = some (.tup x)) ∧
    (∀ (x : List D), dBlt .tuple [.tup x] = some (.tup x)) ∧
    (∀ (x : List D), dBlt .list [.lst x] = some (.lst x)) ∧
    (∀ (x : List D), dBlt .list [.tup x] = some (.lst x)) ∧
    (∀ (x : List D) (i : Int), dIx (.lst x) (.int i) = atI x i) ∧
    (∀ (x : List D) (i : Int), dIx (.tup x) (.int i) = atI x i) ∧
    (∀ (xs : List D) (lo hi : Option Int), dSl (.lst xs) lo hi = some (.lst (cutD xs lo hi))) ∧
    (∀ (xs : List D) (lo hi : Option Int), dSl (.tup xs) lo hi = some (.tup (cutD xs lo hi))) ∧
    (∀ {α : Type} (x : α) (xs : List α), atI (x :: xs) 0 = some x) ∧
    (∀ {α : Type} (a b : α) (xs : List α), atI (a :: b :: xs) 1 = some b) ∧
    (∀ {α : Type} (a b c : α) (xs : List α), atI (a :: b :: c :: xs) 2 = some c) ∧
    (∀ {α : Type} (a b c d : α) (xs : List α), atI (a :: b :: c :: d :: xs) 3 = some d) ∧
    (∀ {α : Type} (a b c d e : α) (xs : List α), atI (a :: b :: c :: d :: e :: xs) 4 = some e) ∧
    (∀ (env : Env), frz [] env = env) ∧
    (∀ (i : Nat) (is : List Nat) (env : Env), frz (i :: is) env = frz is (kFz i env env[i]?)) ∧
    (∀ (env : Env), wipeE env [] = env) ∧
    (∀ (v : Nat) (vs : List Nat) (env : Env), wipeE env (v :: vs) = (wipeE env vs).set v none) ∧
    (∀ (env : Env), noOwn env [] = true) ∧
    (∀ (env : Env) (s : Str) (i : Nat) (own : List (Str × Nat)), noOwn env ((s, i) :: own) = (notOwn env[i]? && noOwn env own)) ∧
    (notOwn none = true) ∧
    (notOwn (some none) = true) ∧
    (∀ (x : D), notOwn (some (some (.d x))) = true) ∧
    (∀ (i : Nat) (own : List (Str × Nat)), tgIn (.name i) own = ((own.map (·.2)).contains i && true)) ∧
    (∀ (ts : List CT) (own : List (Str × Nat)), tgIn (.tup ts) own = (CT.slotss ts).all fun i => (own.map (·.2)).contains i) ∧
    (CT.slotss [] = []) ∧
    (∀ (t : CT) (ts : List CT), CT.slotss (t :: ts) = CT.slots t ++ CT.slotss ts) ∧
    (∀ (i : Nat), CT.slots (.name i) = [i]) ∧
    (∀ (ts : List CT), CT.slots (.tup ts) = CT.slotss ts) ∧
    (∀ (a : CE) (env : Env), noPk env (.rng1 a) = true) ∧
    (∀ (a b : CE) (env : Env), noPk env (.rng2 a b) = true) ∧
    (∀ (env : Env) (i : Nat), noPk env (.seq (.var i)) = notOwn env[i]?) ∧
    (∀ (env : Env) (i : Nat), noPk env (.enum (.var i)) = notOwn env[i]?) ∧
    (∀ (env : Env) (i j : Nat), noPk env (.zip (.var i) (.var j)) = (notOwn env[i]? && notOwn env[j]?)) ∧
    (∀ (env : Env) (es : List CE), noPk env (.seq (.tup es)) = true) ∧
    (∀ (env : Env) (es : List CE), noPk env (.seq (.lst es)) = true) ∧
    (∀ (env : Env) (f : Nat) (es : List CE), noPk env (.seq (.call f es)) = true) ∧
    (∀ (env : Env) (f : Bt) (es : List CE), noPk env (.seq (.blt f es)) = true) ∧
    (∀ (env : Env) (a b : CE), noPk env (.seq (.ix a b)) = true) ∧
    (∀ (env : Env) (a : CE), noPk env (.seq (.slA a)) = true) ∧
    (∀ (env : Env) (a b : CE), noPk env (.seq (.slF a b)) = true) ∧
    (∀ (env : Env) (a b : CE), noPk env (.seq (.slT a b)) = true) ∧
    (∀ (env : Env) (a b c : CE), noPk env (.seq (.slFT a b c)) = true) ∧
    (∀ (env : Env) (a : CE), noPk env (.seq (.rev a)) = true) ∧
    (∀ (env : Env) (op : Operator) (a b : CE), noPk env (.seq (.bin op a b)) = true) ∧
    (∀ (i : Nat) (xs : List D) (env : Env), kFz i env (some (some (.own xs))) = env.set i (some (.d (.lst xs)))) ∧
    (∀ (i : Nat) (x : D) (env : Env), kFz i env (some (some (.d x))) = env) ∧
    (∀ (i : Nat) (env : Env), kFz i env (some none) = env) ∧
    (∀ (o : Option D), notOwn (some (o.map .d)) = true) ∧
    (∀ (i : Int) (n : Nat), D.ok (.int i) n = true) ∧
    (∀ (i : Bool) (n : Nat), D.ok (.bl i) n = true) ∧
    (∀ (n : Nat), D.ok .non n = true) ∧
    (∀ (xs : List D) (n : Nat), D.ok (.tup xs) (n + 1) = D.oks xs n) ∧
    (∀ (xs : List D) (n : Nat), D.ok (.lst xs) (n + 1) = D.oks xs n) ∧
    (∀ (n : Nat), D.oks [] n = true) ∧
    (∀ (x : D) (xs : List D) (n : Nat), D.oks (x :: xs) n = (D.ok x n && D.oks xs n)) ∧
    (∀ (i j : Int), D.eq (.int i) (.int j) = (i == j)) ∧
    (∀ (i j : Bool), D.eq (.bl i) (.bl j) = (i == j)) ∧
    (D.eq .non .non = true) ∧
    (∀ (x y : List D), D.eq (.lst x) (.lst y) = D.eqs x y) ∧
    (∀ (x y : List D), D.eq (.tup x) (.tup y) = D.eqs x y) ∧
    (D.eqs [] [] = true) ∧
    (∀ (x y : D) (xs ys : List D), D.eqs (x :: xs) (y :: ys) = (D.eq x y && D.eqs xs ys)) ∧
    (∀ (x : D) (xs : List D), D.eqs (x :: xs) [] = false) ∧
    (∀ (x : D) (xs : List D), D.eqs [] (x :: xs) = false) ∧
    (isNon .non = true) ∧
    (∀ (i : Int), isNon (.int i) = false) ∧
    (∀ (i : Bool), isNon (.bl i) = false) ∧
    (∀ (x : List D), isNon (.tup x) = false) ∧
    (∀ (x : List D), isNon (.lst x) = false) := by
  refine ⟨@evP_var, @pkE_var, ?_, ?_, ?_, ?_, ?_, ?_, ?_, ?_, ?_, ?_, ?_, ?_, ?_, ?_, ?_, ?_, ?_, ?_, ?_, ?_, ?_, ?_, @lc_eq, @lcIf_eq, @flc_eq, @flcIf_eq, ?_, ?_, ?_, ?_, ?_, ?_, ?_, ?_, ?_, ?_, ?_, ?_, ?_, ?_, ?_, ?_, ?_, ?_, ?_, ?_, ?_, ?_, ?_, ?_, ?_, ?_, ?_, ?_, ?_, ?_, ?_, ?_, ?_, ?_, ?_, ?_, ?_, ?_, ?_, ?_, ?_, ?_, ?_, @evS_ap, @evS_ex, ?_, ?_, ?_, ?_, ?_, ?_, ?_, ?_, @evS_aug, @evS_set, @evS_for, ?_, ?_, ?_, ?_, ?_, ?_, ?_, ?_, ?_, ?_, ?_, ?_, ?_, ?_, ?_, ?_, ?_, ?_, ?_, ?_, ?_, ?_, ?_, ?_, ?_, ?_, ?_, ?_, ?_, ?_, ?_, ?_, ?_, ?_, ?_, ?_, ?_, ?_, ?_, ?_, ?_, ?_, ?_, ?_, ?_, ?_, ?_, ?_, ?_, ?_, ?_, ?_, ?_, ?_, ?_, ?_, ?_, ?_, ?_, ?_, ?_, ?_, ?_, ?_, ?_, ?_, ?_, ?_, ?_, ?_, ?_, ?_, ?_, ?_, ?_, ?_, ?_, ?_, ?_, ?_, ?_, ?_, ?_, ?_, ?_, ?_, ?_, ?_, ?_, ?_, ?_, ?_, ?_, ?_, ?_, ?_, ?_, ?_, ?_, ?_, ?_, ?_, ?_, ?_, ?_, ?_, ?_, ?_, ?_, ?_, ?_, ?_, ?_, ?_, ?_, ?_, ?_, ?_, ?_, ?_, ?_, ?_, ?_, ?_, ?_, ?_, ?_, ?_, ?_, ?_, ?_, ?_, ?_, ?_, ?_, ?_, ?_, ?_, ?_, ?_, ?_, ?_, ?_, ?_, ?_, ?_, ?_, ?_, ?_, ?_, ?_, ?_, @atI_cons0, @atI_cons1, @atI_cons2, @atI_cons3, @atI_cons4, ?_, @frz_eq, ?_, ?_, ?_, @noOwn_eq, ?_, ?_, ?_, ?_, ?_, ?_, ?_, ?_, ?_, ?_, ?_, @noPk1, @noPk2, @noPk3, ?_, ?_, ?_, ?_, ?_, ?_, ?_, ?_, ?_, ?_, ?_, ?_, ?_, ?_, @notOwn_map, ?_, ?_, ?_, ?_, ?_, ?_, ?_, ?_, ?_, ?_, ?_, ?_, ?_, ?_, ?_, ?_, ?_, ?_, ?_, ?_, ?_⟩ <;> intros <;> rfl
theorem evFd_eq (M : Nat → Mir) (d : Fd) (ds : List D) (β : BS) : evFd M d ds β = if ds.length = d.ps.length ∧ d.ps.length ≤ d.N.length then kFd (evSs M d.body (ds.map (fun x => some (.d x)) ++ List.replicate (d.N.length - ds.length) none) β) else none := rfl
theorem mapE_pure {f : D → BS → Option (D × BS)} {g : D → D} {xs : List D} (h : ∀ x ∈ xs, ∀ β, f x β = some (g x, β)) (β : BS) : mapE f xs β = some (xs.map g, β) := by
  induction xs with
  | nil => rfl
  | cons x xs ih =>
    simp only [mapE, h x (by simp), Option.bind_some, ih fun y hy => h y (by simp [hy]), Option.map_some, List.map_cons]
theorem mapIf_pure {t : D → BS → Option (Bool × BS)} {f : D → BS → Option (D × BS)} {p : D → Bool} {g : D → D} {xs : List D} (ht : ∀ x ∈ xs, ∀ β, t x β = some (p x, β)) (h : ∀ x ∈ xs, p x = true → ∀ β, f x β = some (g x, β)) (β : BS) : mapIf t f xs β = some ((xs.filter p).map g, β) := by
  induction xs with
  | nil => rfl
  | cons x xs ih =>
    have i := ih (fun y hy => ht y (by simp [hy])) fun y hy => h y (by simp [hy])
    simp only [mapIf, ht x (by simp), Option.bind_some]
    cases e : p x with
    | true => simp only [h x (by simp) e, Option.bind_some, i, Option.map_some, List.filter_cons_of_pos e, List.map_cons]
    | false => simp only [i, List.filter_cons_of_neg (show ¬ p x = true by rw [e]; decide)]
theorem mapE_of {α : Type} (ι g : α → D) {f : D → BS → Option (D × BS)} {xs : List α} (h : ∀ x ∈ xs, ∀ β, f (ι x) β = some (g x, β)) (β : BS) : mapE f (xs.map ι) β = some (xs.map g, β) := by
  induction xs with
  | nil => rfl
  | cons x xs ih =>
    simp only [List.map_cons, mapE, h x (by simp), Option.bind_some, ih fun y hy => h y (by simp [hy]), Option.map_some]
theorem mapIf_of {α : Type} (ι g : α → D) (p : α → Bool) {t : D → BS → Option (Bool × BS)} {f : D → BS → Option (D × BS)} {xs : List α} (ht : ∀ x ∈ xs, ∀ β, t (ι x) β = some (p x, β)) (h : ∀ x ∈ xs, p x = true → ∀ β, f (ι x) β = some (g x, β)) (β : BS) : mapIf t f (xs.map ι) β = some ((xs.filter p).map g, β) := by
  induction xs with
  | nil => rfl
  | cons x xs ih =>
    have i := ih (fun y hy => ht y (by simp [hy])) fun y hy => h y (by simp [hy])
    simp only [List.map_cons, mapIf, ht x (by simp), Option.bind_some]
    cases e : p x with
    | true => simp only [h x (by simp) e, Option.bind_some, i, Option.map_some, List.filter_cons_of_pos e, List.map_cons]
    | false => simp only [i, List.filter_cons_of_neg (show ¬ p x = true by rw [e]; decide)]
theorem rangeD0 (n : Nat) : rangeD 0 n = (List.range n).map fun k : Nat => D.int (k : Int) := by
  unfold rangeD
  apply List.map_congr_left
  intro k _
  rw [Int.zero_add]
theorem oks_all {n : Nat} : ∀ {xs : List D}, (∀ x ∈ xs, D.ok x n = true) → D.oks xs n = true
  | [], _ => rfl
  | x :: xs, h => by
    show (D.ok x n && D.oks xs n) = true
    rw [h x (by simp), oks_all fun y hy => h y (by simp [hy])]
    rfl
theorem intsD_map : ∀ ns : List Int, intsD (ns.map D.int) = some ns
  | [] => rfl
  | n :: ns => by simp only [List.map_cons, intsD, intsD_map ns, Option.map_some]
theorem min_eq {ns : List Int} {v : Int} (h : v ∈ ns) (h2 : ∀ y ∈ ns, v ≤ y) : minI ns = some v := by
  cases e : minI ns with
  | none =>
    cases ns with
    | nil => cases h
    | cons x r => cases e
  | some w =>
    obtain ⟨a, b⟩ := minI_ok e
    rw [Int.le_antisymm (h2 w a) (b v h)]
theorem max_eq {ns : List Int} {v : Int} (h : v ∈ ns) (h2 : ∀ y ∈ ns, y ≤ v) : maxI ns = some v := by
  cases e : maxI ns with
  | none =>
    cases ns with
    | nil => cases h
    | cons x r => cases e
  | some w =>
    obtain ⟨a, b⟩ := maxI_ok e
    rw [Int.le_antisymm (h2 w a) (b v h)]
theorem dMin {ns : List Int} {v : Int} (h : v ∈ ns) (h2 : ∀ y ∈ ns, v ≤ y) : dBlt .min [.lst (ns.map D.int)] = some (.int v) := by
  show ((intsD (ns.map D.int)).bind minI).map D.int = _
  rw [intsD_map, Option.bind_some, min_eq h h2]
  rfl
theorem dMax {ns : List Int} {v : Int} (h : v ∈ ns) (h2 : ∀ y ∈ ns, y ≤ v) : dBlt .max [.lst (ns.map D.int)] = some (.int v) := by
  show ((intsD (ns.map D.int)).bind maxI).map D.int = _
  rw [intsD_map, Option.bind_some, max_eq h h2]
  rfl
theorem take_draw (β : BS) (m : Int) (h : 0 < m ∧ m.natAbs < big) : ∃ v β', takeMir [.bag, .int m] β = some (.int v, β') ∧ 0 ≤ v ∧ v < m := by
  refine ⟨(β.take m).1, (β.take m).2, if_pos h, BS.take_range β h.1⟩
theorem forE_run {t : CT} {f : Env → BS → Option Out} : ∀ {xs : List D} (S : Nat → Env × BS), (∀ k x, xs[k]? = some x → ((bindT t x (S k).1).bind fun e1 => f e1 (S k).2) = some (.nx (S (k + 1)).1 (S (k + 1)).2)) → forE t f xs (S 0).1 (S 0).2 = some (.nx (S xs.length).1 (S xs.length).2)
  | [], S, _ => rfl
  | x :: xs, S, h => by
    have h0 := h 0 x rfl
    have ih := forE_run (t := t) (f := f) (xs := xs) (fun k => S (k + 1)) fun k y hy => h (k + 1) y hy
    obtain ⟨e1, k1, k2⟩ := Option.bind_eq_some_iff.mp h0
    simp only [forE, k1, Option.bind_some, k2]
    exact ih
theorem forE_inv {t : CT} {f : Env → BS → Option Out} (P : Env → BS → Prop) : ∀ {xs : List D}, (∀ x ∈ xs, ∀ env β, P env β → ∃ e2 β2, ((bindT t x env).bind fun e1 => f e1 β) = some (.nx e2 β2) ∧ P e2 β2) → ∀ {env : Env} {β : BS}, P env β → ∃ e2 β2, forE t f xs env β = some (.nx e2 β2) ∧ P e2 β2
  | [], _, env, β, p => ⟨env, β, rfl, p⟩
  | x :: xs, h, env, β, p => by
    obtain ⟨e2, β2, h1, p2⟩ := h x (by simp) env β p
    obtain ⟨e3, β3, h3, p3⟩ := forE_inv P (xs := xs) (fun y hy => h y (by simp [hy])) p2
    obtain ⟨e1, k1, k2⟩ := Option.bind_eq_some_iff.mp h1
    exact ⟨e3, β3, by simp only [forE, k1, Option.bind_some, k2]; exact h3, p3⟩
theorem kFd_ret {o : Option Out} {x : D} {β : BS} (h : o = some (.ret x β)) : kFd o = some (x, β) := by
  rw [h]
  rfl
theorem for_step {M : Nat → Mir} {ss : List CS} {t : CT} {f : Env → BS → Option Out} {xs : List D} {env : Env} {β : BS} {r : Option Out} (S : Nat → Env × BS) (h0 : S 0 = (env, β)) (hs : ∀ k x, xs[k]? = some x → ((bindT t x (S k).1).bind fun e1 => f e1 (S k).2) = some (.nx (S (k + 1)).1 (S (k + 1)).2)) (hr : evSs M ss (S xs.length).1 (S xs.length).2 = r) : kSs M ss (forE t f xs env β) = r := by
  have h := forE_run (t := t) (f := f) S hs
  rw [h0] at h
  rw [h]
  exact hr
theorem for_keep {M : Nat → Mir} {ss : List CS} {t : CT} {f : Env → BS → Option Out} {xs : List D} {env : Env} {β : BS} (P : Env → BS → Prop) (h0 : P env β) (hs : ∀ x ∈ xs, ∀ env β, P env β → ∃ e2 β2, ((bindT t x env).bind fun e1 => f e1 β) = some (.nx e2 β2) ∧ P e2 β2) {R : Option Out → Prop} (hr : ∀ e2 β2, P e2 β2 → R (evSs M ss e2 β2)) : R (kSs M ss (forE t f xs env β)) := by
  obtain ⟨e2, β2, h1, h2⟩ := forE_inv (t := t) (f := f) P hs h0
  rw [h1]
  exact hr e2 β2 h2
theorem rangeD_mem {lo : Int} {n : Nat} {x : D} : x ∈ rangeD lo n ↔ ∃ k : Nat, k < n ∧ x = .int (lo + (k : Nat)) := by
  unfold rangeD
  simp only [List.mem_map, List.mem_range]
  exact ⟨fun ⟨k, a, b⟩ => ⟨k, a, b.symm⟩, fun ⟨k, a, b⟩ => ⟨k, a, b.symm⟩⟩
end LT

namespace LT
open PySem PySem.Spec PyProof.Rows L2
def cornerI (s : Int) : Int := if 0 ≤ s then (s + 1) * (s + 2) / 2 else 0
def pairsI (a b c d lim : Int) : Int := cornerI (lim - a + d) - cornerI (lim - a + d - (b - a + 1)) - cornerI (lim - a + d - (d - c + 1)) + cornerI (lim - a + d - (b - a + 1) - (d - c + 1))
def manyI (lu ld a m : Int) : Int := if mx 0 lu > m ∨ mx 0 ld > m ∨ lu - a > a - ld then 0 else pairsI (mx 0 lu) m (mx 0 ld) m (a - ld) - pairsI (mx 0 lu) m (mx 0 ld) m (lu - a - 1)
def safeB (u d lu ld a : Int) : Bool := decide (lu ≤ u) && decide (ld ≤ d) && decide (lu ≤ a + u - d) && decide (ld ≤ a + d - u)
theorem safe_iff {u d lu ld a : Int} : safeB u d lu ld a = true ↔ lu ≤ u ∧ ld ≤ d ∧ lu ≤ a + u - d ∧ ld ≤ a + d - u := by
  unfold safeB
  simp only [Bool.and_eq_true, decide_eq_true_eq, and_assoc]
def pos0 (t : Int) : Int := if 0 ≤ t then t else 0
theorem corner_step (s : Int) : cornerI s = cornerI (s - 1) + pos0 (s + 1) := by
  unfold cornerI pos0
  by_cases h : 0 ≤ s
  · have h2 : 0 ≤ s + 1 := by omega
    rw [if_pos h, if_pos h2]
    by_cases h1 : 0 ≤ s - 1
    · rw [if_pos h1]
      have e : (s + 1) * (s + 2) = (s - 1 + 1) * (s - 1 + 2) + (s + 1) * 2 := by
        have : s - 1 + 1 = s := by omega
        have e2 : s - 1 + 2 = s + 1 := by omega
        rw [this, e2, Int.mul_comm s (s + 1), ← Int.mul_add]
      rw [e, Int.add_mul_ediv_right _ _ (by decide)]
    · rw [if_neg h1]
      have : s = 0 := by omega
      subst this
      decide
  · have h1 : ¬ 0 ≤ s - 1 := by omega
    rw [if_neg h, if_neg h1]
    split <;> omega
def gI (B t : Int) : Int := pos0 (t + 1) - pos0 (t - B + 1)
def sumR (f : Int → Int) : Nat → Int
  | 0 => 0
  | n + 1 => sumR f n + f n
theorem sum_g (B s : Int) : ∀ A : Nat, sumR (fun x => gI B (s - x)) A = cornerI s - cornerI (s - A) - cornerI (s - B) + cornerI (s - A - B)
  | 0 => by
    simp only [sumR]
    have : s - ((0 : Nat) : Int) = s := by omega
    rw [this]
    omega
  | A + 1 => by
    have e1 := corner_step (s - A)
    have e2 := corner_step (s - A - B)
    rw [sumR, sum_g B s A]
    unfold gI
    have k1 : s - ((A + 1 : Nat) : Int) = s - A - 1 := by omega
    have k2 : s - ((A + 1 : Nat) : Int) - B = s - A - B - 1 := by omega
    rw [k2, k1]
    omega
theorem sumR_congr {f g : Int → Int} : ∀ {n : Nat}, (∀ k : Nat, k < n → f k = g k) → sumR f n = sumR g n
  | 0, _ => rfl
  | n + 1, h => by rw [sumR, sumR, h n (by omega), sumR_congr fun k hk => h k (by omega)]
theorem sumR_sub (f g : Int → Int) : ∀ n : Nat, sumR (fun x => f x - g x) n = sumR f n - sumR g n
  | 0 => rfl
  | n + 1 => by
    rw [sumR, sumR, sumR, sumR_sub f g n]
    omega
theorem sumR_zero {f : Int → Int} : ∀ {n : Nat}, (∀ k : Nat, k < n → f k = 0) → sumR f n = 0
  | 0, _ => rfl
  | n + 1, h => by rw [sumR, h n (by omega), sumR_zero fun k hk => h k (by omega)]; rfl
theorem sumR_shift {f : Int → Int} (l : Nat) : ∀ n : Nat, sumR f (l + n) = sumR f l + sumR (fun x => f (l + x)) n
  | 0 => by simp [sumR]
  | n + 1 => by
    rw [← Nat.add_assoc, sumR, sumR_shift l n, sumR]
    have : ((l + n : Nat) : Int) = l + n := by omega
    rw [this]
    omega
theorem cnt_range (lo hi : Int) : ∀ n : Nat, (((List.range n).filter fun d : Nat => decide (lo ≤ (d : Int)) && decide ((d : Int) ≤ hi)).length : Int) = pos0 (min (hi + 1) n - max lo 0)
  | 0 => by
    simp only [List.range_zero, List.filter_nil, List.length_nil]
    unfold pos0
    split <;> omega
  | n + 1 => by
    rw [List.range_succ, List.filter_append, List.length_append]
    have ih := cnt_range lo hi n
    by_cases h : lo ≤ (n : Int) ∧ (n : Int) ≤ hi
    · rw [List.filter_cons_of_pos (by simp [h]), List.filter_nil, List.length_singleton]
      unfold pos0 at ih ⊢
      split at ih <;> split <;> omega
    · rw [List.filter_cons_of_neg (by simp only [Bool.and_eq_true, decide_eq_true_eq]; exact h), List.filter_nil, List.length_nil]
      unfold pos0 at ih ⊢
      split at ih <;> split <;> omega
def onesP (lu ld a : Int) (n : Nat) : List (Int × Int) := (List.range n).flatMap fun u : Nat => ((List.range n).filter fun d : Nat => safeB u d lu ld a).map fun d : Nat => ((u : Int), (d : Int))
def rowI (lu ld a : Int) (n : Nat) (u : Int) : Int := if lu ≤ u then pos0 (min (a + u - lu + 1) n - max (max ld (u - a + ld)) 0) else 0
theorem row_len (lu ld a : Int) (n : Nat) (u : Nat) : (((List.range n).filter fun d : Nat => safeB u d lu ld a).length : Int) = rowI lu ld a n u := by
  unfold rowI
  by_cases h : lu ≤ (u : Int)
  · rw [if_pos h, show a + (u : Int) - lu + 1 = (a + u - lu) + 1 from rfl, ← cnt_range]
    congr 2
    apply List.filter_congr
    intro d _
    rw [Bool.eq_iff_iff, safe_iff]
    simp only [Bool.and_eq_true, decide_eq_true_eq]
    omega
  · rw [if_neg h]
    have : ((List.range n).filter fun d : Nat => safeB u d lu ld a) = [] := by
      rw [List.filter_eq_nil_iff]
      intro d _ z
      rw [safe_iff] at z
      omega
    rw [this]
    rfl
theorem ones_len (lu ld a : Int) (n : Nat) : ((onesP lu ld a n).length : Int) = sumR (rowI lu ld a n) n := by
  have key : ∀ k : Nat, ((((List.range k).flatMap fun u : Nat => ((List.range n).filter fun d : Nat => safeB u d lu ld a).map fun d : Nat => ((u : Int), (d : Int))).length : Nat) : Int) = sumR (rowI lu ld a n) k := by
    intro k
    induction k with
    | zero => rfl
    | succ k ih =>
      rw [List.range_succ, List.flatMap_append, List.length_append, sumR]
      simp only [List.flatMap_cons, List.flatMap_nil, List.append_nil, List.length_map]
      have := row_len lu ld a n k
      omega
  exact key n
theorem many_ok (lu ld a : Int) (m : Nat) : ((onesP lu ld a (m + 1)).length : Int) = manyI lu ld a m := by
  rw [ones_len]
  unfold manyI
  by_cases h1 : mx 0 lu > m
  · rw [if_pos (.inl h1)]
    refine sumR_zero fun k hk => ?_
    unfold rowI
    unfold mx at h1
    split at h1 <;> rw [if_neg (by omega)]
  by_cases h2 : mx 0 ld > m
  · rw [if_pos (.inr (.inl h2))]
    refine sumR_zero fun k hk => ?_
    unfold rowI pos0
    unfold mx at h2
    split
    · split
      · split at h2 <;> omega
      · rfl
    · rfl
  by_cases h3 : lu - a > a - ld
  · rw [if_pos (.inr (.inr h3))]
    refine sumR_zero fun k hk => ?_
    unfold rowI pos0
    split
    · split
      · omega
      · rfl
    · rfl
  rw [if_neg (by rintro (z | z | z) <;> contradiction)]
  obtain ⟨l, hl⟩ : ∃ l : Nat, (l : Int) = mx 0 lu := ⟨(mx 0 lu).toNat, Int.toNat_of_nonneg (by unfold mx; split <;> omega)⟩
  obtain ⟨q, hq⟩ : ∃ q : Nat, (q : Int) = mx 0 ld := ⟨(mx 0 ld).toNat, Int.toNat_of_nonneg (by unfold mx; split <;> omega)⟩
  rw [← hl, ← hq]
  rw [← hl] at h1
  rw [← hq] at h2
  have e : m + 1 = l + (m + 1 - l) := by omega
  have hsum : sumR (rowI lu ld a (m + 1)) (m + 1) = sumR (rowI lu ld a (m + 1)) l + sumR (fun x => rowI lu ld a (m + 1) (l + x)) (m + 1 - l) := by
    rw [← sumR_shift, ← e]
  rw [hsum, sumR_zero (n := l) (f := rowI lu ld a (m + 1))]
  · have B : (m : Int) - q + 1 = (m : Int) - q + 1 := rfl
    have hrow : sumR (fun x => rowI lu ld a (m + 1) (l + x)) (m + 1 - l) = sumR (fun x => gI (m - q + 1) ((a - ld) - l + m - x) - gI (m - q + 1) ((lu - a - 1) - l + m - x)) (m + 1 - l) := by
      refine sumR_congr fun k hk => ?_
      unfold rowI gI
      unfold mx at hl hq
      have kl : (k : Int) < m + 1 - l := by omega
      rw [if_pos (by split at hl <;> omega)]
      unfold pos0
      split at hl <;> split at hq <;> omega
    rw [hrow, sumR_sub, sum_g, sum_g]
    unfold pairsI
    have ea : ((m + 1 - l : Nat) : Int) = (m : Int) - l + 1 := by omega
    rw [ea]
    omega
  · intro k hk
    unfold rowI
    unfold mx at hl
    split at hl <;> rw [if_neg (by omega)]
theorem ones_mem {lu ld a : Int} {n : Nat} {p : Int × Int} : p ∈ onesP lu ld a n ↔ 0 ≤ p.1 ∧ p.1 < n ∧ 0 ≤ p.2 ∧ p.2 < n ∧ safeB p.1 p.2 lu ld a = true := by
  unfold onesP
  simp only [List.mem_flatMap, List.mem_range, List.mem_map, List.mem_filter]
  constructor
  · rintro ⟨u, hu, d, ⟨hd, hs⟩, rfl⟩
    exact ⟨Int.natCast_nonneg u, by omega, Int.natCast_nonneg d, by omega, hs⟩
  · rintro ⟨h1, h2, h3, h4, h5⟩
    have e1 : ((p.1.toNat : Nat) : Int) = p.1 := Int.toNat_of_nonneg h1
    have e2 : ((p.2.toNat : Nat) : Int) = p.2 := Int.toNat_of_nonneg h3
    refine ⟨p.1.toNat, by omega, p.2.toNat, ⟨by omega, ?_⟩, ?_⟩
    · rw [e1, e2]
      exact h5
    · rw [e1, e2]
def aboveU (r0 r1 lu ld a : Int) : Int := mx (mx r0 lu) (mx r1 ld + lu - a)
def aboveD (r0 r1 lu ld a : Int) : Int := mx (mx r1 ld) (mx r0 lu + ld - a)
theorem mx_le {i j : Int} : i ≤ mx i j ∧ j ≤ mx i j ∧ (mx i j = i ∨ mx i j = j) := by
  unfold mx
  split <;> omega
theorem mn_le {i j : Int} : mn i j ≤ i ∧ mn i j ≤ j ∧ (mn i j = i ∨ mn i j = j) := by
  unfold mn
  split <;> omega
theorem least_ok {lu ld a : Int} {n : Nat} {p : Int × Int} (hp : p ∈ onesP lu ld a n) : (aboveU 0 0 lu ld a, aboveD 0 0 lu ld a) ∈ onesP lu ld a n ∧ ∀ q ∈ onesP lu ld a n, aboveU 0 0 lu ld a ≤ q.1 ∧ aboveD 0 0 lu ld a ≤ q.2 := by
  have all : ∀ q ∈ onesP lu ld a n, aboveU 0 0 lu ld a ≤ q.1 ∧ aboveD 0 0 lu ld a ≤ q.2 := by
    intro q hq
    obtain ⟨h1, h2, h3, h4, h5⟩ := ones_mem.mp hq
    rw [safe_iff] at h5
    unfold aboveU aboveD
    have a1 := @mx_le 0 lu
    have a2 := @mx_le 0 ld
    have a3 := @mx_le (mx 0 lu) (mx 0 ld + lu - a)
    have a4 := @mx_le (mx 0 ld) (mx 0 lu + ld - a)
    omega
  refine ⟨?_, all⟩
  have hq := all p hp
  obtain ⟨h1, h2, h3, h4, h5⟩ := ones_mem.mp hp
  rw [safe_iff] at h5
  rw [ones_mem, safe_iff]
  unfold aboveU aboveD at hq ⊢
  have a1 := @mx_le 0 lu
  have a2 := @mx_le 0 ld
  have a3 := @mx_le (mx 0 lu) (mx 0 ld + lu - a)
  have a4 := @mx_le (mx 0 ld) (mx 0 lu + ld - a)
  simp only at *
  omega
end LT

namespace LT
open PySem PySem.Spec PyProof.Rows L2
def d1 : Fd := { id := 1, name := "least_needs", N := ["boards", "gap", "label_least", "label_most", "till_least", "till_most", "up", "down"], ps := ["boards", "gap"], body := [
  .asg (.tup [(.tup [(.name 2), (.name 3)]), (.tup [(.name 4), (.name 5)])]) (.var 0),
  .asg (.name 6) (.bin .Add (.bin .Sub (.bin .Add (.var 3) (.ix (.var 1) (.cst (.int 1)))) (.var 4)) (.cst (.int 1))),
  .asg (.name 7) (.bin .Add (.bin .Sub (.bin .Sub (.var 5) (.var 2)) (.ix (.var 1) (.cst (.int 0)))) (.cst (.int 1))),
  .ret (.tup [(.var 6), (.var 7)])] }
def d2 : Fd := { id := 2, name := "is_safe_rule", N := ["rule", "boards", "gap", "apart", "up", "down", "least_up", "least_down"], ps := ["rule", "boards", "gap", "apart"], body := [
  .asg (.tup [(.tup [(.name 4), (.name 5)]), (.tup [(.name 6), (.name 7)])]) (.tup [(.var 0), (.call 1 [(.var 1), (.var 2)])]),
  .ifs (.or (.cmp .Lt (.var 4) (.var 6)) (.cmp .Lt (.var 5) (.var 7))) [.ret (.cst (.bool false))] [],
  .ret (.andV (.cmp .GtE (.bin .Sub (.bin .Add (.var 3) (.var 4)) (.var 5)) (.var 6)) (.cmp .GtE (.bin .Sub (.bin .Add (.var 3) (.var 5)) (.var 4)) (.var 7)))] }
def d3 : Fd := { id := 3, name := "rule_above", N := ["rule", "boards", "gap", "apart", "least_up", "least_down", "up", "down"], ps := ["rule", "boards", "gap", "apart"], body := [
  .asg (.tup [(.name 4), (.name 5)]) (.call 1 [(.var 1), (.var 2)]),
  .par2 false false 6 7 (.blt .max [(.ix (.var 0) (.cst (.int 0))), (.var 4)]) (.blt .max [(.ix (.var 0) (.cst (.int 1))), (.var 5)]),
  .par2 false false 6 7 (.blt .max [(.var 6), (.bin .Sub (.bin .Add (.var 7) (.var 4)) (.var 3))]) (.blt .max [(.var 7), (.bin .Sub (.bin .Add (.var 6) (.var 5)) (.var 3))]),
  .ret (.ite (.tru (.call 2 [(.tup [(.var 6), (.var 7)]), (.var 1), (.var 2), (.var 3)])) (.tup [(.var 6), (.var 7)]) (.cst .none))] }
def d4 : Fd := { id := 4, name := "least_rule", N := ["boards", "gap", "apart"], ps := ["boards", "gap", "apart"], body := [
  .ret (.call 3 [(.tup [(.cst (.int 0)), (.cst (.int 0))]), (.var 0), (.var 1), (.var 2)])] }
def d5 : Fd := { id := 5, name := "apart_for", N := ["rule", "boards", "gap", "up", "down", "least_up", "least_down"], ps := ["rule", "boards", "gap"], body := [
  .asg (.tup [(.tup [(.name 3), (.name 4)]), (.tup [(.name 5), (.name 6)])]) (.tup [(.var 0), (.call 1 [(.var 1), (.var 2)])]),
  .ifs (.or (.cmp .Lt (.var 3) (.var 5)) (.cmp .Lt (.var 4) (.var 6))) [.ret (.cst .none)] [],
  .ret (.blt .max [(.cst (.int 1)), (.bin .Sub (.bin .Add (.var 5) (.var 4)) (.var 3)), (.bin .Sub (.bin .Add (.var 6) (.var 3)) (.var 4))])] }
def d6 : Fd := { id := 6, name := "corner", N := ["size"], ps := ["size"], body := [
  .ret (.ite (.cmp .GtE (.var 0) (.cst (.int 0))) (.bin .FloorDiv (.bin .Mult (.bin .Add (.var 0) (.cst (.int 1))) (.bin .Add (.var 0) (.cst (.int 2)))) (.cst (.int 2))) (.cst (.int 0)))] }
def d7 : Fd := { id := 7, name := "pairs_below", N := ["one", "other", "limit", "size", "many", "late"], ps := ["one", "other", "limit"], body := [
  .par3 false false false 3 4 5 (.bin .Add (.bin .Sub (.var 2) (.ix (.var 0) (.cst (.int 0)))) (.ix (.var 1) (.cst (.int 1)))) (.bin .Add (.bin .Sub (.ix (.var 0) (.cst (.int 1))) (.ix (.var 0) (.cst (.int 0)))) (.cst (.int 1))) (.bin .Add (.bin .Sub (.ix (.var 1) (.cst (.int 1))) (.ix (.var 1) (.cst (.int 0)))) (.cst (.int 1))),
  .ret (.bin .Add (.bin .Sub (.bin .Sub (.call 6 [(.var 3)]) (.call 6 [(.bin .Sub (.var 3) (.var 4))])) (.call 6 [(.bin .Sub (.var 3) (.var 5))])) (.call 6 [(.bin .Sub (.bin .Sub (.var 3) (.var 4)) (.var 5))]))] }
def d8 : Fd := { id := 8, name := "how_many_rules", N := ["boards", "gap", "apart", "most", "least_up", "least_down", "one", "other", "low", "high"], ps := ["boards", "gap", "apart", "most"], body := [
  .asg (.tup [(.name 4), (.name 5)]) (.call 1 [(.var 0), (.var 1)]),
  .par2 false false 6 7 (.tup [(.blt .max [(.cst (.int 0)), (.var 4)]), (.var 3)]) (.tup [(.blt .max [(.cst (.int 0)), (.var 5)]), (.var 3)]),
  .par2 false false 8 9 (.bin .Sub (.var 4) (.var 2)) (.bin .Sub (.var 2) (.var 5)),
  .ifs (.or (.cmp .Gt (.ix (.var 6) (.cst (.int 0))) (.var 3)) (.or (.cmp .Gt (.ix (.var 7) (.cst (.int 0))) (.var 3)) (.cmp .Gt (.var 8) (.var 9)))) [.ret (.cst (.int 0))] [],
  .ret (.bin .Sub (.call 7 [(.var 6), (.var 7), (.var 9)]) (.call 7 [(.var 6), (.var 7), (.bin .Sub (.var 8) (.cst (.int 1)))]))] }
def d9 : Fd := { id := 9, name := "_law_bag", N := ["_law_script", "_law_cell"], ps := ["_law_script"], body := [
  .ret (.lst [(.cst (.int 0)), (.cst (.int 1234567891)), (.cst (.int 0)), (.lc (.blt .abs [(.var 1)]) (.name 1) (.seq (.slT (.var 0) (.cst (.int 63)))) [("_law_cell", 1)])])] }
def d10 : Fd := { id := 10, name := "_law_take", N := ["_law_bag_here", "_law_many", "_law_cell", "_law_mixed", "_law_drawn", "_law_early", "_law_second"], ps := ["_law_bag_here", "_law_many"], body := [
  .ifs (.cmp .Eq (.ix (.var 0) (.cst (.int 0))) (.cst (.int 0))) [.asg (.name 2) (.cst (.int 0)), .ifs (.cmp .Lt (.ix (.var 0) (.cst (.int 2))) (.blt .len [(.ix (.var 0) (.cst (.int 3)))])) [.asg (.name 2) (.ix (.ix (.var 0) (.cst (.int 3))) (.ix (.var 0) (.cst (.int 2))))] [], .augIx (.var 0) (.cst (.int 2)) .Add (.cst (.int 1)), .ifs (.cmp .GtE (.var 2) (.cst (.int 1000000000000000000))) [.setIx (.var 0) (.cst (.int 0)) (.var 2)] [], .asg (.name 3) (.bin .Add (.bin .Add (.bin .Mult (.ix (.var 0) (.cst (.int 1))) (.cst (.int 48271))) (.bin .Mod (.blt .int [(.var 2)]) (.cst (.int 2147483647)))) (.bin .Mult (.cst (.int 7919)) (.ix (.var 0) (.cst (.int 2))))), .setIx (.var 0) (.cst (.int 1)) (.bin .Mod (.blt .int [(.var 3)]) (.cst (.int 2147483647)))] [],
  .ifs (.cmp .Gt (.ix (.var 0) (.cst (.int 0))) (.cst (.int 0))) [.asg (.name 4) (.bin .Mod (.blt .int [(.ix (.var 0) (.cst (.int 0)))]) (.var 1)), .setIx (.var 0) (.cst (.int 0)) (.bin .FloorDiv (.ix (.var 0) (.cst (.int 0))) (.var 1)), .ret (.var 4)] [],
  .asg (.name 5) (.bin .Mod (.blt .int [(.bin .Mult (.bin .Add (.ix (.var 0) (.cst (.int 1))) (.cst (.int 1))) (.cst (.int 39373)))]) (.cst (.int 1000000007))),
  .asg (.name 6) (.bin .Mod (.blt .int [(.bin .Mult (.bin .Mod (.blt .int [(.bin .Mult (.var 5) (.var 5))]) (.cst (.int 998244353))) (.cst (.int 30011)))]) (.cst (.int 998244353))),
  .ret (.bin .Mod (.blt .int [(.bin .FloorDiv (.var 6) (.cst (.int 7)))]) (.var 1))] }
def d11 : Fd := { id := 11, name := "_law_one", N := ["_law_bag_here", "_law_things"], ps := ["_law_bag_here", "_law_things"], body := [
  .ret (.ix (.var 1) (.call 10 [(.var 0), (.blt .len [(.var 1)])]))] }
def d12 : Fd := { id := 12, name := "_law_small_board", N := ["_law_bag_here", "_law_least"], ps := ["_law_bag_here"], body := [
  .asg (.name 1) (.call 10 [(.var 0), (.cst (.int 3))]),
  .ret (.tup [(.var 1), (.bin .Add (.var 1) (.call 10 [(.var 0), (.cst (.int 4))]))])] }
def d13 : Fd := { id := 13, name := "_law_safe_ones", N := ["_law_boards", "_law_gap", "_law_apart", "_law_most", "_law_found", "_law_up", "_law_down"], ps := ["_law_boards", "_law_gap", "_law_apart", "_law_most"], body := [
  .asgO 4 (.lst []),
  .forS (.name 5) (.rng1 (.bin .Add (.var 3) (.cst (.int 1)))) [.expr (.bm .extend (.var 4) [(.lcIf (.tup [(.var 5), (.var 6)]) (.name 6) (.rng1 (.bin .Add (.var 3) (.cst (.int 1)))) (.tru (.call 2 [(.tup [(.var 5), (.var 6)]), (.var 0), (.var 1), (.var 2)])) [("_law_down", 6)])])],
  .fz [4],
  .ret (.var 4)] }
def d14 : Fd := { id := 14, name := "law", N := ["_law_script", "_law_bag_here", "_law_turn", "_law_boards", "_law_gap", "_law_apart", "_law_most", "_law_some", "_law_least", "_law_rule", "_law_k", "_law_one_here", "_law_other", "_law_high", "_law_low", "_law_narrow", "_law_board"], ps := ["_law_script"], body := [
  .asg (.name 1) (.call 9 [(.var 0)]),
  .forS (.name 2) (.rng1 (.cst (.int 3))) [.par2 false false 3 4 (.tup [(.call 12 [(.var 1)]), (.call 12 [(.var 1)])]) (.call 12 [(.var 1)]), .par2 false false 5 6 (.bin .Add (.cst (.int 1)) (.call 10 [(.var 1), (.cst (.int 14))])) (.bin .Add (.cst (.int 10)) (.call 10 [(.var 1), (.cst (.int 8))])), .asg (.name 7) (.call 13 [(.var 3), (.var 4), (.var 5), (.var 6)]), .ifs (.cmp .NotEq (.blt .len [(.var 7)]) (.call 8 [(.var 3), (.var 4), (.var 5), (.var 6)])) [.ret (.cst (.bool false))] [], .ifs (.cmp .NotEq (.var 7) (.lst [])) [.asg (.name 8) (.tup [(.blt .min [(.lc (.ix (.var 9) (.cst (.int 0))) (.name 9) (.seq (.var 7)) [("_law_rule", 9)])]), (.blt .min [(.lc (.ix (.var 9) (.cst (.int 1))) (.name 9) (.seq (.var 7)) [("_law_rule", 9)])])]), .ifs (.or (.cmp .NotEq (.call 4 [(.var 3), (.var 4), (.var 5)]) (.var 8)) (.cmp .NotEq (.call 3 [(.tup [(.cst (.int 0)), (.cst (.int 0))]), (.var 3), (.var 4), (.var 5)]) (.var 8))) [.ret (.cst (.bool false))] []] [], .forS (.name 10) (.rng1 (.blt .min [(.cst (.int 6)), (.blt .len [(.var 7)])])) [.par2 false false 11 12 (.call 11 [(.var 1), (.var 7)]) (.call 11 [(.var 1), (.var 7)]), .par2 false false 13 14 (.tup [(.blt .max [(.ix (.var 11) (.cst (.int 0))), (.ix (.var 12) (.cst (.int 0)))]), (.blt .max [(.ix (.var 11) (.cst (.int 1))), (.ix (.var 12) (.cst (.int 1)))])]) (.tup [(.blt .min [(.ix (.var 11) (.cst (.int 0))), (.ix (.var 12) (.cst (.int 0)))]), (.blt .min [(.ix (.var 11) (.cst (.int 1))), (.ix (.var 12) (.cst (.int 1)))])]), .forS (.name 9) (.seq (.tup [(.var 13), (.var 14), (.tup [(.bin .Add (.ix (.var 11) (.cst (.int 0))) (.cst (.int 1))), (.bin .Add (.ix (.var 11) (.cst (.int 1))) (.cst (.int 1)))])])) [.ifs (.not (.tru (.call 2 [(.var 9), (.var 3), (.var 4), (.var 5)]))) [.ret (.cst (.bool false))] []], .ifs (.or (.not (.tru (.call 2 [(.var 11), (.var 3), (.var 4), (.bin .Add (.var 5) (.cst (.int 1)))]))) (.cmp .Gt (.call 5 [(.var 11), (.var 3), (.var 4)]) (.var 5))) [.ret (.cst (.bool false))] [], .asg (.name 15) (.tup [(.bin .Add (.ix (.var 4) (.cst (.int 0))) (.blt .int [(.cmp .Lt (.ix (.var 4) (.cst (.int 0))) (.ix (.var 4) (.cst (.int 1))))])), (.ix (.var 4) (.cst (.int 1)))]), .ifs (.not (.tru (.call 2 [(.var 11), (.var 3), (.var 15), (.var 5)]))) [.ret (.cst (.bool false))] [], .asg (.name 16) (.tup [(.ix (.ix (.var 3) (.cst (.int 0))) (.cst (.int 0))), (.blt .max [(.ix (.ix (.var 3) (.cst (.int 0))) (.cst (.int 0))), (.bin .Sub (.ix (.ix (.var 3) (.cst (.int 0))) (.cst (.int 1))) (.cst (.int 1)))])]), .ifs (.not (.tru (.call 2 [(.var 11), (.tup [(.var 16), (.ix (.var 3) (.cst (.int 1)))]), (.var 4), (.var 5)]))) [.ret (.cst (.bool false))] []]],
  .ret (.cst (.bool true))] }
def tab : List Fd := [d1, d2, d3, d4, d5, d6, d7, d8, d9, d10, d11, d12, d13, d14]
def topAt (i : Nat) : Stmt := PySem.Challenge.pw_labeltill_k57_whole_rules_beside_one_ano.main.body.getD i (.Pass ⟨0, 0, 0, 0⟩)
def places : List (Str × Nat) := [("least_needs", 1), ("is_safe_rule", 2), ("rule_above", 3), ("least_rule", 4), ("apart_for", 5), ("corner", 6), ("pairs_below", 7), ("how_many_rules", 8), ("_law_bag", 10), ("_law_take", 11), ("_law_one", 12), ("_law_small_board", 13), ("_law_safe_ones", 14), ("law", 15)]
def top (x : Str) : Stmt := topAt ((places.lookup x).getD 0)
theorem chk : chkTab top [] tab = true := by kernel_rfl
end LT

namespace LT
open PySem PySem.Spec PyProof.Rows L2
def needU (lm tl g1 : Int) : Int := lm + g1 - tl + 1
def needD (tm ll g0 : Int) : Int := tm - ll - g0 + 1
abbrev dI2 (a b : Int) : D := .tup [.int a, .int b]
def mNeeds : Mir := fun ds β => match ds with
  | [.tup [.tup [.int ll, .int lm], .tup [.int tl, .int tm]], .tup [.int g0, .int g1]] => some (dI2 (needU lm tl g1) (needD tm ll g0), β)
  | _ => none
theorem mNeeds_eq (ll lm tl tm g0 g1 : Int) (β : BS) : mNeeds [.tup [.tup [.int ll, .int lm], .tup [.int tl, .int tm]], .tup [.int g0, .int g1]] β = some (.tup [.int (needU lm tl g1), .int (needD tm ll g0)], β) := rfl
def mSafe : Mir := fun ds β => match ds with
  | [.tup [.int u, .int d], .tup [.tup [.int ll, .int lm], .tup [.int tl, .int tm]], .tup [.int g0, .int g1], .int a] => some (.bl (safeB u d (needU lm tl g1) (needD tm ll g0) a), β)
  | _ => none
theorem mSafe_eq (u d ll lm tl tm g0 g1 a : Int) (β : BS) : mSafe [.tup [.int u, .int d], .tup [.tup [.int ll, .int lm], .tup [.int tl, .int tm]], .tup [.int g0, .int g1], .int a] β = some (.bl (safeB u d (needU lm tl g1) (needD tm ll g0) a), β) := rfl
theorem hm1 {M : Nat → Mir} (h : M 1 = mNeeds) : ∀ ds β r, M 1 ds β = some r → evFd M d1 ds β = some r := by
  intro ds β r e
  rw [h] at e
  unfold mNeeds at e
  split at e
  · cases e
    rfl
  · cases e
theorem hm2 {M : Nat → Mir} (h1 : M 1 = mNeeds) (h : M 2 = mSafe) : ∀ ds β r, M 2 ds β = some r → evFd M d2 ds β = some r := by
  intro ds β r e
  rw [h] at e
  unfold mSafe at e
  split at e
  · cases e
    rename_i u d ll lm tl tm g0 g1 a
    generalize hlu : needU lm tl g1 = lu
    generalize hld : needD tm ll g0 = ld
    simp only [ev, List.getElem?_cons_zero, List.getElem?_cons_succ, List.set_cons_zero, List.set_cons_succ, List.length_cons, List.length_nil, Nat.reduceAdd, Nat.reduceLeDiff, Nat.reduceSub, ↓reduceIte, List.map_cons, List.map_nil, Bool.and_true, Bool.true_and, Bool.and_self, and_self, and_true, List.cons_append, List.nil_append, List.replicate_succ, List.replicate_zero, evFd_eq, decide_true, decide_false, Bool.not_true, Bool.not_false, Bool.false_and, Bool.and_false, List.contains_cons, List.contains_nil, beq_self_eq_true, Bool.true_or, Bool.or_true, Bool.or_false, Bool.false_or, List.all_cons, List.all_nil, Nat.reduceBEq, d2, h1, mNeeds_eq, hlu, hld]
    unfold safeB
    by_cases c1 : u < lu
    · simp only [ev, List.getElem?_cons_zero, List.getElem?_cons_succ, List.set_cons_zero, List.set_cons_succ, List.length_cons, List.length_nil, Nat.reduceAdd, Nat.reduceLeDiff, Nat.reduceSub, ↓reduceIte, List.map_cons, List.map_nil, Bool.and_true, Bool.true_and, Bool.and_self, and_self, and_true, List.cons_append, List.nil_append, List.replicate_succ, List.replicate_zero, evFd_eq, decide_true, decide_false, Bool.not_true, Bool.not_false, Bool.false_and, Bool.and_false, List.contains_cons, List.contains_nil, beq_self_eq_true, Bool.true_or, Bool.or_true, Bool.or_false, Bool.false_or, List.all_cons, List.all_nil, Nat.reduceBEq, c1, show ¬ (lu ≤ u) by omega]
    · simp only [ev, List.getElem?_cons_zero, List.getElem?_cons_succ, List.set_cons_zero, List.set_cons_succ, List.length_cons, List.length_nil, Nat.reduceAdd, Nat.reduceLeDiff, Nat.reduceSub, ↓reduceIte, List.map_cons, List.map_nil, Bool.and_true, Bool.true_and, Bool.and_self, and_self, and_true, List.cons_append, List.nil_append, List.replicate_succ, List.replicate_zero, evFd_eq, decide_true, decide_false, Bool.not_true, Bool.not_false, Bool.false_and, Bool.and_false, List.contains_cons, List.contains_nil, beq_self_eq_true, Bool.true_or, Bool.or_true, Bool.or_false, Bool.false_or, List.all_cons, List.all_nil, Nat.reduceBEq, c1, show (lu ≤ u) by omega]
      by_cases c2 : d < ld
      · simp only [ev, List.getElem?_cons_zero, List.getElem?_cons_succ, List.set_cons_zero, List.set_cons_succ, List.length_cons, List.length_nil, Nat.reduceAdd, Nat.reduceLeDiff, Nat.reduceSub, ↓reduceIte, List.map_cons, List.map_nil, Bool.and_true, Bool.true_and, Bool.and_self, and_self, and_true, List.cons_append, List.nil_append, List.replicate_succ, List.replicate_zero, evFd_eq, decide_true, decide_false, Bool.not_true, Bool.not_false, Bool.false_and, Bool.and_false, List.contains_cons, List.contains_nil, beq_self_eq_true, Bool.true_or, Bool.or_true, Bool.or_false, Bool.false_or, List.all_cons, List.all_nil, Nat.reduceBEq, c2, show ¬ (ld ≤ d) by omega]
      · simp only [ev, List.getElem?_cons_zero, List.getElem?_cons_succ, List.set_cons_zero, List.set_cons_succ, List.length_cons, List.length_nil, Nat.reduceAdd, Nat.reduceLeDiff, Nat.reduceSub, ↓reduceIte, List.map_cons, List.map_nil, Bool.and_true, Bool.true_and, Bool.and_self, and_self, and_true, List.cons_append, List.nil_append, List.replicate_succ, List.replicate_zero, evFd_eq, decide_true, decide_false, Bool.not_true, Bool.not_false, Bool.false_and, Bool.and_false, List.contains_cons, List.contains_nil, beq_self_eq_true, Bool.true_or, Bool.or_true, Bool.or_false, Bool.false_or, List.all_cons, List.all_nil, Nat.reduceBEq, c2, show (ld ≤ d) by omega]
        by_cases c3 : lu ≤ a + u - d
        · simp only [ev, List.getElem?_cons_zero, List.getElem?_cons_succ, List.set_cons_zero, List.set_cons_succ, List.length_cons, List.length_nil, Nat.reduceAdd, Nat.reduceLeDiff, Nat.reduceSub, ↓reduceIte, List.map_cons, List.map_nil, Bool.and_true, Bool.true_and, Bool.and_self, and_self, and_true, List.cons_append, List.nil_append, List.replicate_succ, List.replicate_zero, evFd_eq, decide_true, decide_false, Bool.not_true, Bool.not_false, Bool.false_and, Bool.and_false, List.contains_cons, List.contains_nil, beq_self_eq_true, Bool.true_or, Bool.or_true, Bool.or_false, Bool.false_or, List.all_cons, List.all_nil, Nat.reduceBEq, c3]
        · simp only [ev, List.getElem?_cons_zero, List.getElem?_cons_succ, List.set_cons_zero, List.set_cons_succ, List.length_cons, List.length_nil, Nat.reduceAdd, Nat.reduceLeDiff, Nat.reduceSub, ↓reduceIte, List.map_cons, List.map_nil, Bool.and_true, Bool.true_and, Bool.and_self, and_self, and_true, List.cons_append, List.nil_append, List.replicate_succ, List.replicate_zero, evFd_eq, decide_true, decide_false, Bool.not_true, Bool.not_false, Bool.false_and, Bool.and_false, List.contains_cons, List.contains_nil, beq_self_eq_true, Bool.true_or, Bool.or_true, Bool.or_false, Bool.false_or, List.all_cons, List.all_nil, Nat.reduceBEq, c3]
  · cases e
def aboveV (r0 r1 lu ld a : Int) : D := if safeB (aboveU r0 r1 lu ld a) (aboveD r0 r1 lu ld a) lu ld a then dI2 (aboveU r0 r1 lu ld a) (aboveD r0 r1 lu ld a) else .non
def mAbove : Mir := fun ds β => match ds with
  | [.tup [.int r0, .int r1], .tup [.tup [.int ll, .int lm], .tup [.int tl, .int tm]], .tup [.int g0, .int g1], .int a] => some (aboveV r0 r1 (needU lm tl g1) (needD tm ll g0) a, β)
  | _ => none
theorem mAbove_eq (r0 r1 ll lm tl tm g0 g1 a : Int) (β : BS) : mAbove [.tup [.int r0, .int r1], .tup [.tup [.int ll, .int lm], .tup [.int tl, .int tm]], .tup [.int g0, .int g1], .int a] β = some (aboveV r0 r1 (needU lm tl g1) (needD tm ll g0) a, β) := rfl
theorem hm3 {M : Nat → Mir} (h1 : M 1 = mNeeds) (h2 : M 2 = mSafe) (h : M 3 = mAbove) : ∀ ds β r, M 3 ds β = some r → evFd M d3 ds β = some r := by
  intro ds β r e
  rw [h] at e
  unfold mAbove at e
  split at e
  · cases e
    rename_i r0 r1 ll lm tl tm g0 g1 a
    generalize hlu : needU lm tl g1 = lu
    generalize hld : needD tm ll g0 = ld
    simp only [ev, List.getElem?_cons_zero, List.getElem?_cons_succ, List.set_cons_zero, List.set_cons_succ, List.length_cons, List.length_nil, Nat.reduceAdd, Nat.reduceLeDiff, Nat.reduceSub, ↓reduceIte, List.map_cons, List.map_nil, Bool.and_true, Bool.true_and, Bool.and_self, and_self, and_true, List.cons_append, List.nil_append, List.replicate_succ, List.replicate_zero, evFd_eq, decide_true, decide_false, Bool.not_true, Bool.not_false, Bool.false_and, Bool.and_false, List.contains_cons, List.contains_nil, beq_self_eq_true, Bool.true_or, Bool.or_true, Bool.or_false, Bool.false_or, List.all_cons, List.all_nil, Nat.reduceBEq, d3, h1, h2, mNeeds_eq, mSafe_eq, hlu, hld]
    unfold aboveV
    show kFd (kSs M _ (kRet (kIte M _ _ _ (some (safeB (aboveU r0 r1 lu ld a) (aboveD r0 r1 lu ld a) lu ld a, β))))) = _
    cases safeB (aboveU r0 r1 lu ld a) (aboveD r0 r1 lu ld a) lu ld a with
    | true =>
      simp only [ev, List.getElem?_cons_zero, List.getElem?_cons_succ, List.set_cons_zero, List.set_cons_succ, List.length_cons, List.length_nil, Nat.reduceAdd, Nat.reduceLeDiff, Nat.reduceSub, ↓reduceIte, List.map_cons, List.map_nil, Bool.and_true, Bool.true_and, Bool.and_self, and_self, and_true, List.cons_append, List.nil_append, List.replicate_succ, List.replicate_zero, evFd_eq, decide_true, decide_false, Bool.not_true, Bool.not_false, Bool.false_and, Bool.and_false, List.contains_cons, List.contains_nil, beq_self_eq_true, Bool.true_or, Bool.or_true, Bool.or_false, Bool.false_or, List.all_cons, List.all_nil, Nat.reduceBEq]
      rfl
    | false =>
      simp only [ev, List.getElem?_cons_zero, List.getElem?_cons_succ, List.set_cons_zero, List.set_cons_succ, List.length_cons, List.length_nil, Nat.reduceAdd, Nat.reduceLeDiff, Nat.reduceSub, ↓reduceIte, List.map_cons, List.map_nil, Bool.and_true, Bool.true_and, Bool.and_self, and_self, and_true, List.cons_append, List.nil_append, List.replicate_succ, List.replicate_zero, evFd_eq, decide_true, decide_false, Bool.not_true, Bool.not_false, Bool.false_and, Bool.and_false, List.contains_cons, List.contains_nil, beq_self_eq_true, Bool.true_or, Bool.or_true, Bool.or_false, Bool.false_or, List.all_cons, List.all_nil, Nat.reduceBEq]
      rfl
  · cases e
def mLeast : Mir := fun ds β => match ds with
  | [.tup [.tup [.int ll, .int lm], .tup [.int tl, .int tm]], .tup [.int g0, .int g1], .int a] => some (aboveV 0 0 (needU lm tl g1) (needD tm ll g0) a, β)
  | _ => none
theorem mLeast_eq (ll lm tl tm g0 g1 a : Int) (β : BS) : mLeast [.tup [.tup [.int ll, .int lm], .tup [.int tl, .int tm]], .tup [.int g0, .int g1], .int a] β = some (aboveV 0 0 (needU lm tl g1) (needD tm ll g0) a, β) := rfl
theorem hm4 {M : Nat → Mir} (h3 : M 3 = mAbove) (h : M 4 = mLeast) : ∀ ds β r, M 4 ds β = some r → evFd M d4 ds β = some r := by
  intro ds β r e
  rw [h] at e
  unfold mLeast at e
  split at e
  · cases e
    simp only [ev, List.getElem?_cons_zero, List.getElem?_cons_succ, List.set_cons_zero, List.set_cons_succ, List.length_cons, List.length_nil, Nat.reduceAdd, Nat.reduceLeDiff, Nat.reduceSub, ↓reduceIte, List.map_cons, List.map_nil, Bool.and_true, Bool.true_and, Bool.and_self, and_self, and_true, List.cons_append, List.nil_append, List.replicate_succ, List.replicate_zero, evFd_eq, decide_true, decide_false, Bool.not_true, Bool.not_false, Bool.false_and, Bool.and_false, List.contains_cons, List.contains_nil, beq_self_eq_true, Bool.true_or, Bool.or_true, Bool.or_false, Bool.false_or, List.all_cons, List.all_nil, Nat.reduceBEq, d4, h3, mAbove_eq]
  · cases e
def apartV (u d lu ld : Int) : D := if u < lu ∨ d < ld then .non else .int (max3 1 (lu + d - u) (ld + u - d))
def mApart : Mir := fun ds β => match ds with
  | [.tup [.int u, .int d], .tup [.tup [.int ll, .int lm], .tup [.int tl, .int tm]], .tup [.int g0, .int g1]] => some (apartV u d (needU lm tl g1) (needD tm ll g0), β)
  | _ => none
theorem mApart_eq (u d ll lm tl tm g0 g1 : Int) (β : BS) : mApart [.tup [.int u, .int d], .tup [.tup [.int ll, .int lm], .tup [.int tl, .int tm]], .tup [.int g0, .int g1]] β = some (apartV u d (needU lm tl g1) (needD tm ll g0), β) := rfl
theorem hm5 {M : Nat → Mir} (h1 : M 1 = mNeeds) (h : M 5 = mApart) : ∀ ds β r, M 5 ds β = some r → evFd M d5 ds β = some r := by
  intro ds β r e
  rw [h] at e
  unfold mApart at e
  split at e
  · cases e
    rename_i u d ll lm tl tm g0 g1
    generalize hlu : needU lm tl g1 = lu
    generalize hld : needD tm ll g0 = ld
    simp only [ev, List.getElem?_cons_zero, List.getElem?_cons_succ, List.set_cons_zero, List.set_cons_succ, List.length_cons, List.length_nil, Nat.reduceAdd, Nat.reduceLeDiff, Nat.reduceSub, ↓reduceIte, List.map_cons, List.map_nil, Bool.and_true, Bool.true_and, Bool.and_self, and_self, and_true, List.cons_append, List.nil_append, List.replicate_succ, List.replicate_zero, evFd_eq, decide_true, decide_false, Bool.not_true, Bool.not_false, Bool.false_and, Bool.and_false, List.contains_cons, List.contains_nil, beq_self_eq_true, Bool.true_or, Bool.or_true, Bool.or_false, Bool.false_or, List.all_cons, List.all_nil, Nat.reduceBEq, d5, h1, mNeeds_eq, hlu, hld]
    unfold apartV
    by_cases c1 : u < lu
    · simp only [ev, List.getElem?_cons_zero, List.getElem?_cons_succ, List.set_cons_zero, List.set_cons_succ, List.length_cons, List.length_nil, Nat.reduceAdd, Nat.reduceLeDiff, Nat.reduceSub, ↓reduceIte, List.map_cons, List.map_nil, Bool.and_true, Bool.true_and, Bool.and_self, and_self, and_true, List.cons_append, List.nil_append, List.replicate_succ, List.replicate_zero, evFd_eq, decide_true, decide_false, Bool.not_true, Bool.not_false, Bool.false_and, Bool.and_false, List.contains_cons, List.contains_nil, beq_self_eq_true, Bool.true_or, Bool.or_true, Bool.or_false, Bool.false_or, List.all_cons, List.all_nil, Nat.reduceBEq, c1, true_or]
    · simp only [ev, List.getElem?_cons_zero, List.getElem?_cons_succ, List.set_cons_zero, List.set_cons_succ, List.length_cons, List.length_nil, Nat.reduceAdd, Nat.reduceLeDiff, Nat.reduceSub, ↓reduceIte, List.map_cons, List.map_nil, Bool.and_true, Bool.true_and, Bool.and_self, and_self, and_true, List.cons_append, List.nil_append, List.replicate_succ, List.replicate_zero, evFd_eq, decide_true, decide_false, Bool.not_true, Bool.not_false, Bool.false_and, Bool.and_false, List.contains_cons, List.contains_nil, beq_self_eq_true, Bool.true_or, Bool.or_true, Bool.or_false, Bool.false_or, List.all_cons, List.all_nil, Nat.reduceBEq, c1, false_or]
      by_cases c2 : d < ld
      · simp only [ev, List.getElem?_cons_zero, List.getElem?_cons_succ, List.set_cons_zero, List.set_cons_succ, List.length_cons, List.length_nil, Nat.reduceAdd, Nat.reduceLeDiff, Nat.reduceSub, ↓reduceIte, List.map_cons, List.map_nil, Bool.and_true, Bool.true_and, Bool.and_self, and_self, and_true, List.cons_append, List.nil_append, List.replicate_succ, List.replicate_zero, evFd_eq, decide_true, decide_false, Bool.not_true, Bool.not_false, Bool.false_and, Bool.and_false, List.contains_cons, List.contains_nil, beq_self_eq_true, Bool.true_or, Bool.or_true, Bool.or_false, Bool.false_or, List.all_cons, List.all_nil, Nat.reduceBEq, c2]
      · simp only [ev, List.getElem?_cons_zero, List.getElem?_cons_succ, List.set_cons_zero, List.set_cons_succ, List.length_cons, List.length_nil, Nat.reduceAdd, Nat.reduceLeDiff, Nat.reduceSub, ↓reduceIte, List.map_cons, List.map_nil, Bool.and_true, Bool.true_and, Bool.and_self, and_self, and_true, List.cons_append, List.nil_append, List.replicate_succ, List.replicate_zero, evFd_eq, decide_true, decide_false, Bool.not_true, Bool.not_false, Bool.false_and, Bool.and_false, List.contains_cons, List.contains_nil, beq_self_eq_true, Bool.true_or, Bool.or_true, Bool.or_false, Bool.false_or, List.all_cons, List.all_nil, Nat.reduceBEq, c2]
  · cases e
def smI (i : Int) : Prop := -100000 < i ∧ i < 100000
instance (i : Int) : Decidable (smI i) := inferInstanceAs (Decidable (_ ∧ _))
def mCorner : Mir := fun ds β => match ds with
  | [.int s] => if -1000000 < s ∧ s < 1000000 then some (.int (cornerI s), β) else none
  | _ => none
theorem mCorner_eq (s : Int) (β : BS) (h : -1000000 < s ∧ s < 1000000) : mCorner [.int s] β = some (.int (cornerI s), β) := if_pos h
theorem hm6 {M : Nat → Mir} (h : M 6 = mCorner) : ∀ ds β r, M 6 ds β = some r → evFd M d6 ds β = some r := by
  intro ds β r e
  rw [h] at e
  unfold mCorner at e
  split at e
  · split at e
    · cases e
      rename_i s hs
      simp only [ev, List.getElem?_cons_zero, List.getElem?_cons_succ, List.set_cons_zero, List.set_cons_succ, List.length_cons, List.length_nil, Nat.reduceAdd, Nat.reduceLeDiff, Nat.reduceSub, ↓reduceIte, List.map_cons, List.map_nil, Bool.and_true, Bool.true_and, Bool.and_self, and_self, and_true, List.cons_append, List.nil_append, List.replicate_succ, List.replicate_zero, evFd_eq, decide_true, decide_false, Bool.not_true, Bool.not_false, Bool.false_and, Bool.and_false, List.contains_cons, List.contains_nil, beq_self_eq_true, Bool.true_or, Bool.or_true, Bool.or_false, Bool.false_or, List.all_cons, List.all_nil, Nat.reduceBEq, d6]
      unfold cornerI
      by_cases c : 0 ≤ s
      · simp only [ev, List.getElem?_cons_zero, List.getElem?_cons_succ, List.set_cons_zero, List.set_cons_succ, List.length_cons, List.length_nil, Nat.reduceAdd, Nat.reduceLeDiff, Nat.reduceSub, ↓reduceIte, List.map_cons, List.map_nil, Bool.and_true, Bool.true_and, Bool.and_self, and_self, and_true, List.cons_append, List.nil_append, List.replicate_succ, List.replicate_zero, evFd_eq, decide_true, decide_false, Bool.not_true, Bool.not_false, Bool.false_and, Bool.and_false, List.contains_cons, List.contains_nil, beq_self_eq_true, Bool.true_or, Bool.or_true, Bool.or_false, Bool.false_or, List.all_cons, List.all_nil, Nat.reduceBEq, c]
        rw [if_pos (.inr (.inl (by omega)))]
        simp only [ev, List.getElem?_cons_zero, List.getElem?_cons_succ, List.set_cons_zero, List.set_cons_succ, List.length_cons, List.length_nil, Nat.reduceAdd, Nat.reduceLeDiff, Nat.reduceSub, ↓reduceIte, List.map_cons, List.map_nil, Bool.and_true, Bool.true_and, Bool.and_self, and_self, and_true, List.cons_append, List.nil_append, List.replicate_succ, List.replicate_zero, evFd_eq, decide_true, decide_false, Bool.not_true, Bool.not_false, Bool.false_and, Bool.and_false, List.contains_cons, List.contains_nil, beq_self_eq_true, Bool.true_or, Bool.or_true, Bool.or_false, Bool.false_or, List.all_cons, List.all_nil, Nat.reduceBEq]
        rw [if_pos (by decide)]
        simp only [ev, List.getElem?_cons_zero, List.getElem?_cons_succ, List.set_cons_zero, List.set_cons_succ, List.length_cons, List.length_nil, Nat.reduceAdd, Nat.reduceLeDiff, Nat.reduceSub, ↓reduceIte, List.map_cons, List.map_nil, Bool.and_true, Bool.true_and, Bool.and_self, and_self, and_true, List.cons_append, List.nil_append, List.replicate_succ, List.replicate_zero, evFd_eq, decide_true, decide_false, Bool.not_true, Bool.not_false, Bool.false_and, Bool.and_false, List.contains_cons, List.contains_nil, beq_self_eq_true, Bool.true_or, Bool.or_true, Bool.or_false, Bool.false_or, List.all_cons, List.all_nil, Nat.reduceBEq]
      · simp only [ev, List.getElem?_cons_zero, List.getElem?_cons_succ, List.set_cons_zero, List.set_cons_succ, List.length_cons, List.length_nil, Nat.reduceAdd, Nat.reduceLeDiff, Nat.reduceSub, ↓reduceIte, List.map_cons, List.map_nil, Bool.and_true, Bool.true_and, Bool.and_self, and_self, and_true, List.cons_append, List.nil_append, List.replicate_succ, List.replicate_zero, evFd_eq, decide_true, decide_false, Bool.not_true, Bool.not_false, Bool.false_and, Bool.and_false, List.contains_cons, List.contains_nil, beq_self_eq_true, Bool.true_or, Bool.or_true, Bool.or_false, Bool.false_or, List.all_cons, List.all_nil, Nat.reduceBEq, c]
    · cases e
  · cases e
def mPairs : Mir := fun ds β => match ds with
  | [.tup [.int a, .int b], .tup [.int c, .int d], .int lim] => if smI a ∧ smI b ∧ smI c ∧ smI d ∧ smI lim then some (.int (pairsI a b c d lim), β) else none
  | _ => none
theorem mPairs_eq (a b c d lim : Int) (β : BS) (h : smI a ∧ smI b ∧ smI c ∧ smI d ∧ smI lim) : mPairs [.tup [.int a, .int b], .tup [.int c, .int d], .int lim] β = some (.int (pairsI a b c d lim), β) := if_pos h
theorem hm7 {M : Nat → Mir} (h6 : M 6 = mCorner) (h : M 7 = mPairs) : ∀ ds β r, M 7 ds β = some r → evFd M d7 ds β = some r := by
  intro ds β r e
  rw [h] at e
  unfold mPairs at e
  split at e
  · split at e
    · cases e
      rename_i a b c d lim hs
      unfold smI at hs
      simp only [ev, List.getElem?_cons_zero, List.getElem?_cons_succ, List.set_cons_zero, List.set_cons_succ, List.length_cons, List.length_nil, Nat.reduceAdd, Nat.reduceLeDiff, Nat.reduceSub, ↓reduceIte, List.map_cons, List.map_nil, Bool.and_true, Bool.true_and, Bool.and_self, and_self, and_true, List.cons_append, List.nil_append, List.replicate_succ, List.replicate_zero, evFd_eq, decide_true, decide_false, Bool.not_true, Bool.not_false, Bool.false_and, Bool.and_false, List.contains_cons, List.contains_nil, beq_self_eq_true, Bool.true_or, Bool.or_true, Bool.or_false, Bool.false_or, List.all_cons, List.all_nil, Nat.reduceBEq, d7, h6]
      rw [mCorner_eq _ _ (by omega)]
      simp only [ev, List.getElem?_cons_zero, List.getElem?_cons_succ, List.set_cons_zero, List.set_cons_succ, List.length_cons, List.length_nil, Nat.reduceAdd, Nat.reduceLeDiff, Nat.reduceSub, ↓reduceIte, List.map_cons, List.map_nil, Bool.and_true, Bool.true_and, Bool.and_self, and_self, and_true, List.cons_append, List.nil_append, List.replicate_succ, List.replicate_zero, evFd_eq, decide_true, decide_false, Bool.not_true, Bool.not_false, Bool.false_and, Bool.and_false, List.contains_cons, List.contains_nil, beq_self_eq_true, Bool.true_or, Bool.or_true, Bool.or_false, Bool.false_or, List.all_cons, List.all_nil, Nat.reduceBEq, h6]
      rw [mCorner_eq _ _ (by omega)]
      simp only [ev, List.getElem?_cons_zero, List.getElem?_cons_succ, List.set_cons_zero, List.set_cons_succ, List.length_cons, List.length_nil, Nat.reduceAdd, Nat.reduceLeDiff, Nat.reduceSub, ↓reduceIte, List.map_cons, List.map_nil, Bool.and_true, Bool.true_and, Bool.and_self, and_self, and_true, List.cons_append, List.nil_append, List.replicate_succ, List.replicate_zero, evFd_eq, decide_true, decide_false, Bool.not_true, Bool.not_false, Bool.false_and, Bool.and_false, List.contains_cons, List.contains_nil, beq_self_eq_true, Bool.true_or, Bool.or_true, Bool.or_false, Bool.false_or, List.all_cons, List.all_nil, Nat.reduceBEq, h6]
      rw [mCorner_eq _ _ (by omega)]
      simp only [ev, List.getElem?_cons_zero, List.getElem?_cons_succ, List.set_cons_zero, List.set_cons_succ, List.length_cons, List.length_nil, Nat.reduceAdd, Nat.reduceLeDiff, Nat.reduceSub, ↓reduceIte, List.map_cons, List.map_nil, Bool.and_true, Bool.true_and, Bool.and_self, and_self, and_true, List.cons_append, List.nil_append, List.replicate_succ, List.replicate_zero, evFd_eq, decide_true, decide_false, Bool.not_true, Bool.not_false, Bool.false_and, Bool.and_false, List.contains_cons, List.contains_nil, beq_self_eq_true, Bool.true_or, Bool.or_true, Bool.or_false, Bool.false_or, List.all_cons, List.all_nil, Nat.reduceBEq, h6]
      rw [mCorner_eq _ _ (by omega)]
      simp only [ev, List.getElem?_cons_zero, List.getElem?_cons_succ, List.set_cons_zero, List.set_cons_succ, List.length_cons, List.length_nil, Nat.reduceAdd, Nat.reduceLeDiff, Nat.reduceSub, ↓reduceIte, List.map_cons, List.map_nil, Bool.and_true, Bool.true_and, Bool.and_self, and_self, and_true, List.cons_append, List.nil_append, List.replicate_succ, List.replicate_zero, evFd_eq, decide_true, decide_false, Bool.not_true, Bool.not_false, Bool.false_and, Bool.and_false, List.contains_cons, List.contains_nil, beq_self_eq_true, Bool.true_or, Bool.or_true, Bool.or_false, Bool.false_or, List.all_cons, List.all_nil, Nat.reduceBEq]
      rfl
    · cases e
  · cases e
def smJ (i : Int) : Prop := -10000 < i ∧ i < 10000
instance (i : Int) : Decidable (smJ i) := inferInstanceAs (Decidable (_ ∧ _))
def mMany : Mir := fun ds β => match ds with
  | [.tup [.tup [.int ll, .int lm], .tup [.int tl, .int tm]], .tup [.int g0, .int g1], .int a, .int m] => if smJ (needU lm tl g1) ∧ smJ (needD tm ll g0) ∧ smJ a ∧ smJ m then some (.int (manyI (needU lm tl g1) (needD tm ll g0) a m), β) else none
  | _ => none
theorem mMany_eq (ll lm tl tm g0 g1 a m : Int) (β : BS) (h : smJ (needU lm tl g1) ∧ smJ (needD tm ll g0) ∧ smJ a ∧ smJ m) : mMany [.tup [.tup [.int ll, .int lm], .tup [.int tl, .int tm]], .tup [.int g0, .int g1], .int a, .int m] β = some (.int (manyI (needU lm tl g1) (needD tm ll g0) a m), β) := if_pos h
theorem mx0 (i : Int) (h : smJ i) : smI (mx 0 i) := by
  unfold smJ at h
  unfold smI mx
  split <;> omega
theorem hm8 {M : Nat → Mir} (h1 : M 1 = mNeeds) (h7 : M 7 = mPairs) (h : M 8 = mMany) : ∀ ds β r, M 8 ds β = some r → evFd M d8 ds β = some r := by
  intro ds β r e
  rw [h] at e
  unfold mMany at e
  split at e
  · split at e
    · cases e
      rename_i ll lm tl tm g0 g1 a m hs
      revert hs
      generalize hlu : needU lm tl g1 = lu
      generalize hld : needD tm ll g0 = ld
      intro hs
      have s1 := mx0 lu hs.1
      have s2 := mx0 ld hs.2.1
      have s3 : smI m ∧ smI (a - ld) ∧ smI (lu - a - 1) := by
        unfold smJ at hs
        unfold smI
        omega
      simp only [ev, List.getElem?_cons_zero, List.getElem?_cons_succ, List.set_cons_zero, List.set_cons_succ, List.length_cons, List.length_nil, Nat.reduceAdd, Nat.reduceLeDiff, Nat.reduceSub, ↓reduceIte, List.map_cons, List.map_nil, Bool.and_true, Bool.true_and, Bool.and_self, and_self, and_true, List.cons_append, List.nil_append, List.replicate_succ, List.replicate_zero, evFd_eq, decide_true, decide_false, Bool.not_true, Bool.not_false, Bool.false_and, Bool.and_false, List.contains_cons, List.contains_nil, beq_self_eq_true, Bool.true_or, Bool.or_true, Bool.or_false, Bool.false_or, List.all_cons, List.all_nil, Nat.reduceBEq, d8, h1, h7, mNeeds_eq, hlu, hld]
      unfold manyI
      by_cases c1 : m < mx 0 lu
      · simp only [ev, List.getElem?_cons_zero, List.getElem?_cons_succ, List.set_cons_zero, List.set_cons_succ, List.length_cons, List.length_nil, Nat.reduceAdd, Nat.reduceLeDiff, Nat.reduceSub, ↓reduceIte, List.map_cons, List.map_nil, Bool.and_true, Bool.true_and, Bool.and_self, and_self, and_true, List.cons_append, List.nil_append, List.replicate_succ, List.replicate_zero, evFd_eq, decide_true, decide_false, Bool.not_true, Bool.not_false, Bool.false_and, Bool.and_false, List.contains_cons, List.contains_nil, beq_self_eq_true, Bool.true_or, Bool.or_true, Bool.or_false, Bool.false_or, List.all_cons, List.all_nil, Nat.reduceBEq, c1, gt_iff_lt, true_or]
      · by_cases c2 : m < mx 0 ld
        · simp only [ev, List.getElem?_cons_zero, List.getElem?_cons_succ, List.set_cons_zero, List.set_cons_succ, List.length_cons, List.length_nil, Nat.reduceAdd, Nat.reduceLeDiff, Nat.reduceSub, ↓reduceIte, List.map_cons, List.map_nil, Bool.and_true, Bool.true_and, Bool.and_self, and_self, and_true, List.cons_append, List.nil_append, List.replicate_succ, List.replicate_zero, evFd_eq, decide_true, decide_false, Bool.not_true, Bool.not_false, Bool.false_and, Bool.and_false, List.contains_cons, List.contains_nil, beq_self_eq_true, Bool.true_or, Bool.or_true, Bool.or_false, Bool.false_or, List.all_cons, List.all_nil, Nat.reduceBEq, c1, c2, gt_iff_lt, true_or, false_or]
        · by_cases c3 : a - ld < lu - a
          · simp only [ev, List.getElem?_cons_zero, List.getElem?_cons_succ, List.set_cons_zero, List.set_cons_succ, List.length_cons, List.length_nil, Nat.reduceAdd, Nat.reduceLeDiff, Nat.reduceSub, ↓reduceIte, List.map_cons, List.map_nil, Bool.and_true, Bool.true_and, Bool.and_self, and_self, and_true, List.cons_append, List.nil_append, List.replicate_succ, List.replicate_zero, evFd_eq, decide_true, decide_false, Bool.not_true, Bool.not_false, Bool.false_and, Bool.and_false, List.contains_cons, List.contains_nil, beq_self_eq_true, Bool.true_or, Bool.or_true, Bool.or_false, Bool.false_or, List.all_cons, List.all_nil, Nat.reduceBEq, c1, c2, c3, gt_iff_lt, true_or, false_or]
          · simp only [ev, List.getElem?_cons_zero, List.getElem?_cons_succ, List.set_cons_zero, List.set_cons_succ, List.length_cons, List.length_nil, Nat.reduceAdd, Nat.reduceLeDiff, Nat.reduceSub, ↓reduceIte, List.map_cons, List.map_nil, Bool.and_true, Bool.true_and, Bool.and_self, and_self, and_true, List.cons_append, List.nil_append, List.replicate_succ, List.replicate_zero, evFd_eq, decide_true, decide_false, Bool.not_true, Bool.not_false, Bool.false_and, Bool.and_false, List.contains_cons, List.contains_nil, beq_self_eq_true, Bool.true_or, Bool.or_true, Bool.or_false, Bool.false_or, List.all_cons, List.all_nil, Nat.reduceBEq, c1, c2, c3, gt_iff_lt, false_or, h7, mPairs_eq _ _ _ _ _ _ ⟨s1, s3.1, s2, s3.1, s3.2.1⟩, mPairs_eq _ _ _ _ _ _ ⟨s1, s3.1, s2, s3.1, s3.2.2⟩]
    · cases e
  · cases e
end LT

namespace LT
open PySem PySem.Spec PyProof.Rows L2
theorem atI_toNat {xs : List D} {i : Int} (h0 : 0 ≤ i) (h1 : i < xs.length) : atI xs i = some (xs.getD i.toNat .non) := by
  have e : ((i.toNat : Nat) : Int) = i := Int.toNat_of_nonneg h0
  have hl : i.toNat < xs.length := by omega
  rw [← e]
  refine (atI_nat (v := xs[i.toNat]) (List.getElem?_eq_getElem hl)).trans ?_
  rw [Int.toNat_natCast, List.getD, List.getElem?_eq_getElem hl]
  rfl
def mOne : Mir := fun ds β => match ds with
  | [.bag, .lst xs] => if 0 < xs.length ∧ xs.length ≤ 1000000 then some (xs.getD (β.take xs.length).1.toNat .non, (β.take xs.length).2) else none
  | _ => none
theorem lenBig {n : Nat} (h : 0 < n ∧ n ≤ 1000000) : 0 < (n : Int) ∧ (n : Int).natAbs < big := ⟨by omega, by
  have : (10 : Nat) ^ 100 = 10 ^ 100 := rfl
  have b : 1000000 < big := by decide
  omega⟩
theorem one_draw (β : BS) (xs : List D) (h : 0 < xs.length ∧ xs.length ≤ 1000000) : ∃ x β', mOne [.bag, .lst xs] β = some (x, β') ∧ x ∈ xs := by
  refine ⟨_, _, if_pos h, ?_⟩
  obtain ⟨a, b⟩ := BS.take_range β (m := xs.length) (by omega)
  have hl : (β.take xs.length).1.toNat < xs.length := by omega
  rw [List.getD, List.getElem?_eq_getElem hl]
  exact List.getElem_mem hl
theorem hmOne {M : Nat → Mir} {d : Fd} (hd : d.ps.length = 2) (hN : d.N.length = 2) {t : Nat} (hb : d.body = [.ret (.ix (.var 1) (.call t [(.var 0), (.blt .len [(.var 1)])]))]) (ht : M t = takeMir) (h : M d.id = mOne) : ∀ ds β r, M d.id ds β = some r → evFd M d ds β = some r := by
  intro ds β r e
  rw [h] at e
  unfold mOne at e
  split at e
  · split at e
    · cases e
      rename_i xs hs
      have hb2 := lenBig hs
      obtain ⟨k0, k1⟩ := BS.take_range β (m := xs.length) hb2.1
      have hk : takeMir [.bag, .int xs.length] β = some (.int (β.take xs.length).1, (β.take xs.length).2) := if_pos hb2
      simp only [ev, List.getElem?_cons_zero, List.getElem?_cons_succ, List.set_cons_zero, List.set_cons_succ, List.length_cons, List.length_nil, Nat.reduceAdd, Nat.reduceLeDiff, Nat.reduceSub, ↓reduceIte, List.map_cons, List.map_nil, Bool.and_true, Bool.true_and, Bool.and_self, and_self, and_true, List.cons_append, List.nil_append, List.replicate_succ, List.replicate_zero, evFd_eq, decide_true, decide_false, Bool.not_true, Bool.not_false, Bool.false_and, Bool.and_false, List.contains_cons, List.contains_nil, beq_self_eq_true, Bool.true_or, Bool.or_true, Bool.or_false, Bool.false_or, List.all_cons, List.all_nil, Nat.reduceBEq, hd, hN, hb, ht, hk, atI_toNat k0 k1]
    · cases e
  · cases e
def mBoard : Mir := fun ds β => match ds with
  | [.bag] => some (dI2 (β.take 3).1 ((β.take 3).1 + ((β.take 3).2.take 4).1), ((β.take 3).2.take 4).2)
  | _ => none
theorem board_draw (β : BS) : ∃ l m β', mBoard [.bag] β = some (.tup [.int l, .int m], β') ∧ 0 ≤ l ∧ l ≤ 2 ∧ l ≤ m ∧ m ≤ l + 3 := by
  have a := BS.take_range β (m := 3) (by decide)
  have b := BS.take_range (β.take 3).2 (m := 4) (by decide)
  exact ⟨_, _, _, rfl, by omega, by omega, by omega, by omega⟩
theorem take_eq (β : BS) (m : Int) (h : 0 < m ∧ m.natAbs < big) : takeMir [.bag, .int m] β = some (.int (β.take m).1, (β.take m).2) := if_pos h
theorem hm12 {M : Nat → Mir} (h10 : M 10 = takeMir) (h : M 12 = mBoard) : ∀ ds β r, M 12 ds β = some r → evFd M d12 ds β = some r := by
  intro ds β r e
  rw [h] at e
  unfold mBoard at e
  split at e
  · cases e
    simp only [ev, List.getElem?_cons_zero, List.getElem?_cons_succ, List.set_cons_zero, List.set_cons_succ, List.length_cons, List.length_nil, Nat.reduceAdd, Nat.reduceLeDiff, Nat.reduceSub, ↓reduceIte, List.map_cons, List.map_nil, Bool.and_true, Bool.true_and, Bool.and_self, and_self, and_true, List.cons_append, List.nil_append, List.replicate_succ, List.replicate_zero, evFd_eq, decide_true, decide_false, Bool.not_true, Bool.not_false, Bool.false_and, Bool.and_false, List.contains_cons, List.contains_nil, beq_self_eq_true, Bool.true_or, Bool.or_true, Bool.or_false, Bool.false_or, List.all_cons, List.all_nil, Nat.reduceBEq, d12, h10, take_eq _ 3 (by decide), take_eq _ 4 (by decide)]
  · cases e
def onesD (lu ld a : Int) (n : Nat) : List D := (onesP lu ld a n).map fun p => dI2 p.1 p.2
def mOnes : Mir := fun ds β => match ds with
  | [.tup [.tup [.int ll, .int lm], .tup [.int tl, .int tm]], .tup [.int g0, .int g1], .int a, .int m] => if 0 ≤ m ∧ m ≤ 100 then some (.lst (onesD (needU lm tl g1) (needD tm ll g0) a (m.toNat + 1)), β) else none
  | _ => none
theorem mOnes_eq (ll lm tl tm g0 g1 a m : Int) (β : BS) (h : 0 ≤ m ∧ m ≤ 100) : mOnes [.tup [.tup [.int ll, .int lm], .tup [.int tl, .int tm]], .tup [.int g0, .int g1], .int a, .int m] β = some (.lst (onesD (needU lm tl g1) (needD tm ll g0) a (m.toNat + 1)), β) := if_pos h
def rowD (lu ld a : Int) (n u : Nat) : List D := ((List.range n).filter fun d : Nat => safeB u d lu ld a).map fun d : Nat => dI2 u d
theorem onesD_eq (lu ld a : Int) (n : Nat) : onesD lu ld a n = (List.range n).flatMap fun u => rowD lu ld a n u := by
  unfold onesD onesP rowD
  rw [List.map_flatMap]
  simp only [List.map_map, Function.comp_def]
theorem rowD_len (lu ld a : Int) (n u : Nat) : (rowD lu ld a n u).length ≤ n := by
  unfold rowD
  rw [List.length_map]
  exact Nat.le_trans (List.length_filter_le _ _) (by rw [List.length_range]; exact Nat.le_refl n)
theorem flat_len (lu ld a : Int) (n : Nat) : ∀ k : Nat, ((List.range k).flatMap fun u => rowD lu ld a n u).length ≤ k * n
  | 0 => by simp
  | k + 1 => by
    rw [List.range_succ, List.flatMap_append, List.length_append]
    have a1 := flat_len lu ld a n k
    have a2 := rowD_len lu ld a n k
    simp only [List.flatMap_cons, List.flatMap_nil, List.append_nil]
    rw [Nat.add_mul, Nat.one_mul]
    omega
theorem onesD_len (lu ld a : Int) (n : Nat) (h : n ≤ 101) : (onesD lu ld a n).length ≤ 1000000 := by
  rw [onesD_eq]
  have := flat_len lu ld a n n
  have : n * n ≤ 101 * 101 := Nat.mul_le_mul h h
  omega
theorem hm13 {M : Nat → Mir} (h2 : M 2 = mSafe) (h : M 13 = mOnes) : ∀ ds β r, M 13 ds β = some r → evFd M d13 ds β = some r := by
  intro ds β r e
  rw [h] at e
  unfold mOnes at e
  split at e
  · split at e
    · cases e
      rename_i ll lm tl tm g0 g1 a m hs
      obtain ⟨n, hn⟩ : ∃ n : Nat, m.toNat + 1 = n := ⟨_, rfl⟩
      have en : (m + 1).toNat = n := by omega
      have nl : n ≤ 101 := by omega
      have rl : -(2 ^ 62) ≤ m + 1 ∧ m + 1 < 2 ^ 62 := by omega
      rw [hn]
      simp only [ev, List.getElem?_cons_zero, List.getElem?_cons_succ, List.set_cons_zero, List.set_cons_succ, List.length_cons, List.length_nil, Nat.reduceAdd, Nat.reduceLeDiff, Nat.reduceSub, ↓reduceIte, List.map_cons, List.map_nil, Bool.and_true, Bool.true_and, Bool.and_self, and_self, and_true, List.cons_append, List.nil_append, List.replicate_succ, List.replicate_zero, evFd_eq, decide_true, decide_false, Bool.not_true, Bool.not_false, Bool.false_and, Bool.and_false, List.contains_cons, List.contains_nil, beq_self_eq_true, Bool.true_or, Bool.or_true, Bool.or_false, Bool.false_or, List.all_cons, List.all_nil, Nat.reduceBEq, d13]
      rw [if_pos rl]
      simp only [ev, List.getElem?_cons_zero, List.getElem?_cons_succ, List.set_cons_zero, List.set_cons_succ, List.length_cons, List.length_nil, Nat.reduceAdd, Nat.reduceLeDiff, Nat.reduceSub, ↓reduceIte, List.map_cons, List.map_nil, Bool.and_true, Bool.true_and, Bool.and_self, and_self, and_true, List.cons_append, List.nil_append, List.replicate_succ, List.replicate_zero, evFd_eq, decide_true, decide_false, Bool.not_true, Bool.not_false, Bool.false_and, Bool.and_false, List.contains_cons, List.contains_nil, beq_self_eq_true, Bool.true_or, Bool.or_true, Bool.or_false, Bool.false_or, List.all_cons, List.all_nil, Nat.reduceBEq, en]
      refine kFd_ret (for_step (fun k => ([some (Sl.d (D.tup [D.tup [D.int ll, D.int lm], D.tup [D.int tl, D.int tm]])), some (Sl.d (D.tup [D.int g0, D.int g1])), some (Sl.d (D.int a)), some (Sl.d (D.int m)), some (Sl.own ((List.range k).flatMap fun u => rowD (needU lm tl g1) (needD tm ll g0) a n u)), match k with | 0 => none | k + 1 => some (Sl.d (D.int (0 + (k : Nat)))), none], β)) rfl (fun k x hx => ?_) ?_)
      · have hk : k < n := by
          have := (List.getElem?_eq_some_iff.mp hx).1
          rwa [rangeD_len] at this
        rw [rangeD_get 0 n k hk] at hx
        cases hx
        show (Option.bind (bindT _ _ _) _) = _
        rw [show ∀ (x : D) (env : Env) (f : Env → Option Out), (bindT (.name 5) x env).bind f = f (env.set 5 (some (.d x))) from fun _ _ _ => rfl]
        simp only [ev, List.getElem?_cons_zero, List.getElem?_cons_succ, List.set_cons_zero, List.set_cons_succ, List.length_cons, List.length_nil, Nat.reduceAdd, Nat.reduceLeDiff, Nat.reduceSub, ↓reduceIte, List.map_cons, List.map_nil, Bool.and_true, Bool.true_and, Bool.and_self, and_self, and_true, List.cons_append, List.nil_append, List.replicate_succ, List.replicate_zero, evFd_eq, decide_true, decide_false, Bool.not_true, Bool.not_false, Bool.false_and, Bool.and_false, List.contains_cons, List.contains_nil, beq_self_eq_true, Bool.true_or, Bool.or_true, Bool.or_false, Bool.false_or, List.all_cons, List.all_nil, Nat.reduceBEq]
        rw [if_pos rl]
        simp only [ev, List.getElem?_cons_zero, List.getElem?_cons_succ, List.set_cons_zero, List.set_cons_succ, List.length_cons, List.length_nil, Nat.reduceAdd, Nat.reduceLeDiff, Nat.reduceSub, ↓reduceIte, List.map_cons, List.map_nil, Bool.and_true, Bool.true_and, Bool.and_self, and_self, and_true, List.cons_append, List.nil_append, List.replicate_succ, List.replicate_zero, evFd_eq, decide_true, decide_false, Bool.not_true, Bool.not_false, Bool.false_and, Bool.and_false, List.contains_cons, List.contains_nil, beq_self_eq_true, Bool.true_or, Bool.or_true, Bool.or_false, Bool.false_or, List.all_cons, List.all_nil, Nat.reduceBEq, en, rangeD_len]
        rw [if_pos (by omega), rangeD0, mapIf_of (ι := fun k : Nat => D.int (k : Int)) (p := fun d : Nat => safeB ((k : Nat) : Int) d (needU lm tl g1) (needD tm ll g0) a) (g := fun d : Nat => dI2 ((k : Nat) : Int) d)]
        · simp only [ev, List.getElem?_cons_zero, List.getElem?_cons_succ, List.set_cons_zero, List.set_cons_succ, List.length_cons, List.length_nil, Nat.reduceAdd, Nat.reduceLeDiff, Nat.reduceSub, ↓reduceIte, List.map_cons, List.map_nil, Bool.and_true, Bool.true_and, Bool.and_self, and_self, and_true, List.cons_append, List.nil_append, List.replicate_succ, List.replicate_zero, evFd_eq, decide_true, decide_false, Bool.not_true, Bool.not_false, Bool.false_and, Bool.and_false, List.contains_cons, List.contains_nil, beq_self_eq_true, Bool.true_or, Bool.or_true, Bool.or_false, Bool.false_or, List.all_cons, List.all_nil, Nat.reduceBEq]
          rw [if_pos, List.range_succ, List.flatMap_append]
          · simp only [List.flatMap_cons, List.flatMap_nil, List.append_nil]
            rfl
          · have a1 := flat_len (needU lm tl g1) (needD tm ll g0) a n k
            have a2 := rowD_len (needU lm tl g1) (needD tm ll g0) a n k
            have a3 : k * n ≤ 101 * 101 := Nat.mul_le_mul (by omega) nl
            show _ + (rowD (needU lm tl g1) (needD tm ll g0) a n k).length ≤ _
            omega
        · intro d hd β1
          simp only [ev, List.getElem?_cons_zero, List.getElem?_cons_succ, List.set_cons_zero, List.set_cons_succ, List.length_cons, List.length_nil, Nat.reduceAdd, Nat.reduceLeDiff, Nat.reduceSub, ↓reduceIte, List.map_cons, List.map_nil, Bool.and_true, Bool.true_and, Bool.and_self, and_self, and_true, List.cons_append, List.nil_append, List.replicate_succ, List.replicate_zero, evFd_eq, decide_true, decide_false, Bool.not_true, Bool.not_false, Bool.false_and, Bool.and_false, List.contains_cons, List.contains_nil, beq_self_eq_true, Bool.true_or, Bool.or_true, Bool.or_false, Bool.false_or, List.all_cons, List.all_nil, Nat.reduceBEq, h2, Int.zero_add, mSafe_eq]
        · intro d hd _ β1
          simp only [ev, List.getElem?_cons_zero, List.getElem?_cons_succ, List.set_cons_zero, List.set_cons_succ, List.length_cons, List.length_nil, Nat.reduceAdd, Nat.reduceLeDiff, Nat.reduceSub, ↓reduceIte, List.map_cons, List.map_nil, Bool.and_true, Bool.true_and, Bool.and_self, and_self, and_true, List.cons_append, List.nil_append, List.replicate_succ, List.replicate_zero, evFd_eq, decide_true, decide_false, Bool.not_true, Bool.not_false, Bool.false_and, Bool.and_false, List.contains_cons, List.contains_nil, beq_self_eq_true, Bool.true_or, Bool.or_true, Bool.or_false, Bool.false_or, List.all_cons, List.all_nil, Nat.reduceBEq, Int.zero_add]
      · rw [rangeD_len]
        simp only [ev, List.getElem?_cons_zero, List.getElem?_cons_succ, List.set_cons_zero, List.set_cons_succ, List.length_cons, List.length_nil, Nat.reduceAdd, Nat.reduceLeDiff, Nat.reduceSub, ↓reduceIte, List.map_cons, List.map_nil, Bool.and_true, Bool.true_and, Bool.and_self, and_self, and_true, List.cons_append, List.nil_append, List.replicate_succ, List.replicate_zero, evFd_eq, decide_true, decide_false, Bool.not_true, Bool.not_false, Bool.false_and, Bool.and_false, List.contains_cons, List.contains_nil, beq_self_eq_true, Bool.true_or, Bool.or_true, Bool.or_false, Bool.false_or, List.all_cons, List.all_nil, Nat.reduceBEq]
        rw [onesD_eq]
    · cases e
  · cases e
end LT

namespace LT
open PySem PySem.Spec PyProof.Rows L2
theorem isSafe_mx {u d v e lu ld a : Int} (h : safeB u d lu ld a = true) (h2 : safeB v e lu ld a = true) : safeB (mx u v) (mx d e) lu ld a = true := by
  rw [safe_iff] at *
  have := @mx_le u v
  have := @mx_le d e
  omega
theorem isSafe_mn {u d v e lu ld a : Int} (h : safeB u d lu ld a = true) (h2 : safeB v e lu ld a = true) : safeB (mn u v) (mn d e) lu ld a = true := by
  rw [safe_iff] at *
  have := @mn_le u v
  have := @mn_le d e
  omega
theorem isSafe_up {u d lu ld a : Int} (h : safeB u d lu ld a = true) : safeB (u + 1) (d + 1) lu ld a = true := by
  rw [safe_iff] at *
  omega
theorem isSafe_far {u d lu ld a : Int} (h : safeB u d lu ld a = true) : safeB u d lu ld (a + 1) = true := by
  rw [safe_iff] at *
  omega
theorem isSafe_less {u d lu ld a lu' ld' : Int} (h : safeB u d lu ld a = true) (h1 : lu' ≤ lu) (h2 : ld' ≤ ld) : safeB u d lu' ld' a = true := by
  rw [safe_iff] at *
  omega
theorem apart_le {u d lu ld a : Int} (h : safeB u d lu ld a = true) (ha : 1 ≤ a) : ∃ k, apartV u d lu ld = .int k ∧ k ≤ a := by
  rw [safe_iff] at h
  refine ⟨max3 1 (lu + d - u) (ld + u - d), if_neg (by omega), ?_⟩
  unfold max3
  split <;> split <;> omega
structure Ms57 (M : Nat → Mir) : Prop where
  h2 : M 2 = mSafe
  h3 : M 3 = mAbove
  h4 : M 4 = mLeast
  h5 : M 5 = mApart
  h8 : M 8 = mMany
  h10 : M 10 = takeMir
  h11 : M 11 = mOne
  h12 : M 12 = mBoard
  h13 : M 13 = mOnes
def Fr57 (env : Env) (_ : BS) : Prop := ∃ s2 s3 s4 s5 s6 s7 s8 s9 s10 s11 s12 s13 s14 s15 s16 : Option D, env = [none, some (.d .bag), s2.map .d, s3.map .d, s4.map .d, s5.map .d, s6.map .d, s7.map .d, s8.map .d, s9.map .d, s10.map .d, s11.map .d, s12.map .d, s13.map .d, s14.map .d, s15.map .d, s16.map .d]
def In57 (t bd gp a m : D) (xs : List D) (env : Env) (_ : BS) : Prop := ∃ s8 s9 s10 s11 s12 s13 s14 s15 s16 : Option D, env = [none, some (.d .bag), some (.d t), some (.d bd), some (.d gp), some (.d a), some (.d m), some (.d (.lst xs)), s8.map .d, s9.map .d, s10.map .d, s11.map .d, s12.map .d, s13.map .d, s14.map .d, s15.map .d, s16.map .d]
def inner57 : List CS := match d14.body with
  | [_, .forS _ _ b, _] => b.drop 5
  | _ => []
theorem in57 {M : Nat → Mir} (h : Ms57 M) (t : D) (ll lm tl tm g0 g1 a m lu ld : Int) (n : Nat) (hlu : lu = needU lm tl g1) (hld : ld = needD tm ll g0) (ha : 1 ≤ a) (hl : ll ≤ lm) (hn : n ≤ 101) (s8 s9 s10 s11 s12 s13 s14 s15 s16 : Option D) (β : BS) :
    ∃ e2 β2, evSs M inner57 [none, some (.d .bag), some (.d t), some (.d (.tup [.tup [.int ll, .int lm], .tup [.int tl, .int tm]])), some (.d (.tup [.int g0, .int g1])), some (.d (.int a)), some (.d (.int m)), some (.d (.lst (onesD lu ld a n))), s8.map .d, s9.map .d, s10.map .d, s11.map .d, s12.map .d, s13.map .d, s14.map .d, s15.map .d, s16.map .d] β = some (.nx e2 β2) ∧ Fr57 e2 β2 := by
  have hl6 := onesD_len lu ld a n hn
  show ∃ e2 β2, evSs M [_] _ β = some (.nx e2 β2) ∧ Fr57 e2 β2
  simp only [ev, List.getElem?_cons_zero, List.getElem?_cons_succ, List.set_cons_zero, List.set_cons_succ, List.length_cons, List.length_nil, Nat.reduceAdd, Nat.reduceLeDiff, Nat.reduceSub, ↓reduceIte, List.map_cons, List.map_nil, Bool.and_true, Bool.true_and, Bool.and_self, and_self, and_true, List.cons_append, List.nil_append, List.replicate_succ, List.replicate_zero, evFd_eq, decide_true, decide_false, Bool.not_true, Bool.not_false, Bool.false_and, Bool.and_false, List.contains_cons, List.contains_nil, beq_self_eq_true, Bool.true_or, Bool.or_true, Bool.or_false, Bool.false_or, List.all_cons, List.all_nil, Nat.reduceBEq]
  have mm := @mn_le 6 ((onesD lu ld a n).length : Int)
  have m0 : 0 ≤ mn 6 ((onesD lu ld a n).length : Int) := by omega
  rw [if_pos (by omega)]
  simp only [ev, List.getElem?_cons_zero, List.getElem?_cons_succ, List.set_cons_zero, List.set_cons_succ, List.length_cons, List.length_nil, Nat.reduceAdd, Nat.reduceLeDiff, Nat.reduceSub, ↓reduceIte, List.map_cons, List.map_nil, Bool.and_true, Bool.true_and, Bool.and_self, and_self, and_true, List.cons_append, List.nil_append, List.replicate_succ, List.replicate_zero, evFd_eq, decide_true, decide_false, Bool.not_true, Bool.not_false, Bool.false_and, Bool.and_false, List.contains_cons, List.contains_nil, beq_self_eq_true, Bool.true_or, Bool.or_true, Bool.or_false, Bool.false_or, List.all_cons, List.all_nil, Nat.reduceBEq]
  refine for_keep (R := fun o => ∃ e2 β2, o = some (.nx e2 β2) ∧ Fr57 e2 β2) (In57 t (.tup [.tup [.int ll, .int lm], .tup [.int tl, .int tm]]) (.tup [.int g0, .int g1]) (.int a) (.int m) (onesD lu ld a n)) ⟨s8, s9, s10, s11, s12, s13, s14, s15, s16, rfl⟩ ?_ ?_
  · rintro x hx env β ⟨s8, s9, s10, s11, s12, s13, s14, s15, s16, rfl⟩
    obtain ⟨k, hk, rfl⟩ := rangeD_mem.mp hx
    have hpos : 0 < (onesD lu ld a n).length ∧ (onesD lu ld a n).length ≤ 1000000 := by omega
    rw [show ∀ (x : D) (env : Env) (f : Env → Option Out), (bindT (.name 10) x env).bind f = f (env.set 10 (some (.d x))) from fun _ _ _ => rfl]
    obtain ⟨x1, β1, e1, i1⟩ := one_draw β (onesD lu ld a n) hpos
    obtain ⟨x2, β2, e2, i2⟩ := one_draw β1 (onesD lu ld a n) hpos
    obtain ⟨⟨u1, d1⟩, j1, rfl⟩ := List.mem_map.mp i1
    obtain ⟨⟨u2, d2⟩, j2, rfl⟩ := List.mem_map.mp i2
    have q1 := (ones_mem.mp j1).2.2.2.2
    have q2 := (ones_mem.mp j2).2.2.2.2
    simp only at q1 q2
    obtain ⟨ap, f1, f2⟩ := apart_le q1 ha
    have p1 := isSafe_mx q1 q2
    have p2 := isSafe_mn q1 q2
    have p3 := isSafe_up q1
    have p4 := isSafe_far q1
    have p5 : safeB u1 d1 lu (needD tm ll (g0 + if decide (g0 < g1) = true then 1 else 0)) a = true := by
      refine isSafe_less q1 (Int.le_refl _) ?_
      rw [hld]
      unfold needD
      split <;> omega
    have p6 : safeB u1 d1 (needU (mx ll (lm - 1)) tl g1) ld a = true := by
      refine isSafe_less q1 ?_ (Int.le_refl _)
      rw [hlu]
      have := @mx_le ll (lm - 1)
      unfold needU
      omega
    have f3 : ¬ a < ap := by omega
    simp only [ev, List.getElem?_cons_zero, List.getElem?_cons_succ, List.set_cons_zero, List.set_cons_succ, List.length_cons, List.length_nil, Nat.reduceAdd, Nat.reduceLeDiff, Nat.reduceSub, ↓reduceIte, List.map_cons, List.map_nil, Bool.and_true, Bool.true_and, Bool.and_self, and_self, and_true, List.cons_append, List.nil_append, List.replicate_succ, List.replicate_zero, evFd_eq, decide_true, decide_false, Bool.not_true, Bool.not_false, Bool.false_and, Bool.and_false, List.contains_cons, List.contains_nil, beq_self_eq_true, Bool.true_or, Bool.or_true, Bool.or_false, Bool.false_or, List.all_cons, List.all_nil, Nat.reduceBEq, h.h11, e1, e2]
    simp only [forE, Option.bind_some, ev, List.getElem?_cons_zero, List.getElem?_cons_succ, List.set_cons_zero, List.set_cons_succ, List.length_cons, List.length_nil, Nat.reduceAdd, Nat.reduceLeDiff, Nat.reduceSub, ↓reduceIte, List.map_cons, List.map_nil, Bool.and_true, Bool.true_and, Bool.and_self, and_self, and_true, List.cons_append, List.nil_append, List.replicate_succ, List.replicate_zero, evFd_eq, decide_true, decide_false, Bool.not_true, Bool.not_false, Bool.false_and, Bool.and_false, List.contains_cons, List.contains_nil, beq_self_eq_true, Bool.true_or, Bool.or_true, Bool.or_false, Bool.false_or, List.all_cons, List.all_nil, Nat.reduceBEq, h.h2, mSafe_eq, ← hlu, ← hld, p1, p2, p3, p4, h.h5, mApart_eq, f1, f3, p5, p6]
    exact ⟨_, _, rfl, s8, some _, some _, some _, some _, some _, some _, some _, some _, rfl⟩
  · rintro e2 β2 ⟨s8, s9, s10, s11, s12, s13, s14, s15, s16, rfl⟩
    exact ⟨_, _, rfl, some _, some _, some _, some _, some _, some _, s8, s9, s10, s11, s12, s13, s14, s15, s16, rfl⟩
theorem lc_fst (M : Nat → Mir) (i : Nat) (env : Env) (lu ld a : Int) (n : Nat) (β : BS) (h : i < env.length) : mapE (lcF M (.ix (.var i) (.cst (.int 0))) (.name i) env) (onesD lu ld a n) β = some (((onesP lu ld a n).map (·.1)).map D.int, β) := by
  unfold onesD
  rw [mapE_of (fun p : Int × Int => dI2 p.1 p.2) (fun p => D.int p.1), List.map_map]
  · rfl
  · intro p _ β
    simp only [ev, List.getElem?_cons_zero, List.getElem?_cons_succ, List.set_cons_zero, List.set_cons_succ, List.length_cons, List.length_nil, Nat.reduceAdd, Nat.reduceLeDiff, Nat.reduceSub, ↓reduceIte, List.map_cons, List.map_nil, Bool.and_true, Bool.true_and, Bool.and_self, and_self, and_true, List.cons_append, List.nil_append, List.replicate_succ, List.replicate_zero, evFd_eq, decide_true, decide_false, Bool.not_true, Bool.not_false, Bool.false_and, Bool.and_false, List.contains_cons, List.contains_nil, beq_self_eq_true, Bool.true_or, Bool.or_true, Bool.or_false, Bool.false_or, List.all_cons, List.all_nil, Nat.reduceBEq, List.getElem?_set_self h]
theorem lc_snd9 (M : Nat → Mir) (i : Nat) (env : Env) (lu ld a : Int) (n : Nat) (β : BS) (h : i < env.length) : mapE (lcF M (.ix (.var i) (.cst (.int 1))) (.name i) env) (onesD lu ld a n) β = some (((onesP lu ld a n).map (·.2)).map D.int, β) := by
  unfold onesD
  rw [mapE_of (fun p : Int × Int => dI2 p.1 p.2) (fun p => D.int p.2), List.map_map]
  · rfl
  · intro p _ β
    simp only [ev, List.getElem?_cons_zero, List.getElem?_cons_succ, List.set_cons_zero, List.set_cons_succ, List.length_cons, List.length_nil, Nat.reduceAdd, Nat.reduceLeDiff, Nat.reduceSub, ↓reduceIte, List.map_cons, List.map_nil, Bool.and_true, Bool.true_and, Bool.and_self, and_self, and_true, List.cons_append, List.nil_append, List.replicate_succ, List.replicate_zero, evFd_eq, decide_true, decide_false, Bool.not_true, Bool.not_false, Bool.false_and, Bool.and_false, List.contains_cons, List.contains_nil, beq_self_eq_true, Bool.true_or, Bool.or_true, Bool.or_false, Bool.false_or, List.all_cons, List.all_nil, Nat.reduceBEq, List.getElem?_set_self h]
theorem law57 {M : Nat → Mir} (h : Ms57 M) (β : BS) : ∃ β', evSs M (d14.body.drop 1) (none :: some (.d .bag) :: List.replicate (d14.N.length - 2) none) β = some (.ret (.bl true) β') := by
  show ∃ β', evSs M [_, _] [none, some (.d .bag), none, none, none, none, none, none, none, none, none, none, none, none, none, none, none] β = _
  simp only [ev, List.getElem?_cons_zero, List.getElem?_cons_succ, List.set_cons_zero, List.set_cons_succ, List.length_cons, List.length_nil, Nat.reduceAdd, Nat.reduceLeDiff, Nat.reduceSub, ↓reduceIte, List.map_cons, List.map_nil, Bool.and_true, Bool.true_and, Bool.and_self, and_self, and_true, List.cons_append, List.nil_append, List.replicate_succ, List.replicate_zero, evFd_eq, decide_true, decide_false, Bool.not_true, Bool.not_false, Bool.false_and, Bool.and_false, List.contains_cons, List.contains_nil, beq_self_eq_true, Bool.true_or, Bool.or_true, Bool.or_false, Bool.false_or, List.all_cons, List.all_nil, Nat.reduceBEq]
  rw [if_pos (by decide)]
  simp only [ev, List.getElem?_cons_zero, List.getElem?_cons_succ, List.set_cons_zero, List.set_cons_succ, List.length_cons, List.length_nil, Nat.reduceAdd, Nat.reduceLeDiff, Nat.reduceSub, ↓reduceIte, List.map_cons, List.map_nil, Bool.and_true, Bool.true_and, Bool.and_self, and_self, and_true, List.cons_append, List.nil_append, List.replicate_succ, List.replicate_zero, evFd_eq, decide_true, decide_false, Bool.not_true, Bool.not_false, Bool.false_and, Bool.and_false, List.contains_cons, List.contains_nil, beq_self_eq_true, Bool.true_or, Bool.or_true, Bool.or_false, Bool.false_or, List.all_cons, List.all_nil, Nat.reduceBEq]
  refine for_keep (R := fun o => ∃ β', o = some (.ret (.bl true) β')) Fr57 ⟨none, none, none, none, none, none, none, none, none, none, none, none, none, none, none, rfl⟩ ?_ ?_
  · rintro x hx env β ⟨s2, s3, s4, s5, s6, s7, s8, s9, s10, s11, s12, s13, s14, s15, s16, rfl⟩
    obtain ⟨k, hk, rfl⟩ := rangeD_mem.mp hx
    rw [show ∀ (x : D) (env : Env) (f : Env → Option Out), (bindT (.name 2) x env).bind f = f (env.set 2 (some (.d x))) from fun _ _ _ => rfl]
    obtain ⟨ll, lm, β1, e1, b1⟩ := board_draw β
    obtain ⟨tl, tm, β2, e2, b2⟩ := board_draw β1
    obtain ⟨g0, g1, β3, e3, b3⟩ := board_draw β2
    obtain ⟨v, β4, e4, b4⟩ := take_draw β3 14 (by decide)
    obtain ⟨w, β5, e5, b5⟩ := take_draw β4 8 (by decide)
    obtain ⟨m, hm⟩ : ∃ m : Nat, (m : Int) = 10 + w := ⟨(10 + w).toNat, Int.toNat_of_nonneg (by omega)⟩
    obtain ⟨a, ha⟩ : ∃ a : Int, a = 1 + v := ⟨_, rfl⟩
    have m0 : (0 : Int) ≤ (m : Int) ∧ (m : Int) ≤ 100 := by omega
    have nu : smJ (needU lm tl g1) ∧ smJ (needD tm ll g0) ∧ smJ a ∧ smJ (m : Int) := by
      unfold smJ needU needD
      omega
    simp only [ev, List.getElem?_cons_zero, List.getElem?_cons_succ, List.set_cons_zero, List.set_cons_succ, List.length_cons, List.length_nil, Nat.reduceAdd, Nat.reduceLeDiff, Nat.reduceSub, ↓reduceIte, List.map_cons, List.map_nil, Bool.and_true, Bool.true_and, Bool.and_self, and_self, and_true, List.cons_append, List.nil_append, List.replicate_succ, List.replicate_zero, evFd_eq, decide_true, decide_false, Bool.not_true, Bool.not_false, Bool.false_and, Bool.and_false, List.contains_cons, List.contains_nil, beq_self_eq_true, Bool.true_or, Bool.or_true, Bool.or_false, Bool.false_or, List.all_cons, List.all_nil, Nat.reduceBEq, h.h12, h.h10, h.h13, h.h8, e1, e2, e3, e4, e5, ← hm, ← ha, mOnes_eq _ _ _ _ _ _ _ _ _ m0, mMany_eq _ _ _ _ _ _ _ _ _ nu, Int.toNat_natCast]
    obtain ⟨lu, hlu⟩ : ∃ x, x = needU lm tl g1 := ⟨_, rfl⟩
    obtain ⟨ld, hld⟩ : ∃ x, x = needD tm ll g0 := ⟨_, rfl⟩
    have hlen : ((onesD lu ld a (m + 1)).length : Int) = manyI lu ld a m := by
      unfold onesD
      rw [List.length_map]
      exact many_ok lu ld a m
    have hok : D.oks (onesD lu ld a (m + 1)) 59 = true := oks_all fun x hx => by
      obtain ⟨p, _, rfl⟩ := List.mem_map.mp hx
      rfl
    have hl6 := onesD_len lu ld a (m + 1) (by omega)
    simp only [← hlu, ← hld, hlen, beq_self_eq_true, ev, List.getElem?_cons_zero, List.getElem?_cons_succ, List.set_cons_zero, List.set_cons_succ, List.length_cons, List.length_nil, Nat.reduceAdd, Nat.reduceLeDiff, Nat.reduceSub, ↓reduceIte, List.map_cons, List.map_nil, Bool.and_true, Bool.true_and, Bool.and_self, and_self, and_true, List.cons_append, List.nil_append, List.replicate_succ, List.replicate_zero, evFd_eq, decide_true, decide_false, Bool.not_true, Bool.not_false, Bool.false_and, Bool.and_false, List.contains_cons, List.contains_nil, beq_self_eq_true, Bool.true_or, Bool.or_true, Bool.or_false, Bool.false_or, List.all_cons, List.all_nil, Nat.reduceBEq, hok]
    by_cases hP : onesP lu ld a (m + 1) = []
    · have e0 : onesD lu ld a (m + 1) = [] := by
        unfold onesD
        rw [hP]
        rfl
      rw [show D.eqs (onesD lu ld a (m + 1)) [] = true by rw [e0]; rfl]
      simp only [Bool.not_true]
      exact in57 h _ ll lm tl tm g0 g1 a m lu ld (m + 1) hlu hld (by omega) (by omega) (by omega) s8 s9 s10 s11 s12 s13 s14 s15 s16 β5
    · obtain ⟨p, hp⟩ := List.exists_mem_of_ne_nil _ hP
      obtain ⟨q1, q2⟩ := least_ok hp
      obtain ⟨U, hU⟩ : ∃ x, x = aboveU 0 0 lu ld a := ⟨_, rfl⟩
      obtain ⟨W, hW⟩ : ∃ x, x = aboveD 0 0 lu ld a := ⟨_, rfl⟩
      have q3 := (ones_mem.mp q1).2.2.2.2
      simp only at q3
      have q4 : aboveV 0 0 lu ld a = .tup [.int U, .int W] := by
        unfold aboveV
        rw [if_pos q3, hU, hW]
      rw [← hU, ← hW] at q1 q2
      rw [show D.eqs (onesD lu ld a (m + 1)) [] = false by
        unfold onesD
        cases e : onesP lu ld a (m + 1) with
        | nil => exact absurd e hP
        | cons x r => rfl]
      have c1 : dBlt .min [.lst (((onesP lu ld a (m + 1)).map (·.1)).map D.int)] = some (.int U) := dMin (List.mem_map_of_mem (f := (·.1)) q1) fun y hy => by
        obtain ⟨q, hq, rfl⟩ := List.mem_map.mp hy
        exact (q2 q hq).1
      have c2 : dBlt .min [.lst (((onesP lu ld a (m + 1)).map (·.2)).map D.int)] = some (.int W) := dMin (List.mem_map_of_mem (f := (·.2)) q1) fun y hy => by
        obtain ⟨q, hq, rfl⟩ := List.mem_map.mp hy
        exact (q2 q hq).2
      simp only [ev, List.getElem?_cons_zero, List.getElem?_cons_succ, List.set_cons_zero, List.set_cons_succ, List.length_cons, List.length_nil, Nat.reduceAdd, Nat.reduceLeDiff, Nat.reduceSub, ↓reduceIte, List.map_cons, List.map_nil, Bool.and_true, Bool.true_and, Bool.and_self, and_self, and_true, List.cons_append, List.nil_append, List.replicate_succ, List.replicate_zero, evFd_eq, decide_true, decide_false, Bool.not_true, Bool.not_false, Bool.false_and, Bool.and_false, List.contains_cons, List.contains_nil, beq_self_eq_true, Bool.true_or, Bool.or_true, Bool.or_false, Bool.false_or, List.all_cons, List.all_nil, Nat.reduceBEq, hl6, lc_fst, lc_snd9, Nat.reduceLT, c1, c2, h.h3, h.h4, mAbove_eq, mLeast_eq, ← hlu, ← hld, q4]
      exact in57 h _ ll lm tl tm g0 g1 a m lu ld (m + 1) hlu hld (by omega) (by omega) (by omega) (some _) s9 s10 s11 s12 s13 s14 s15 s16 β5
  · rintro e2 β2 ⟨s2, s3, s4, s5, s6, s7, s8, s9, s10, s11, s12, s13, s14, s15, s16, rfl⟩
    exact ⟨β2, rfl⟩
end LT

namespace LT
open PySem PySem.Spec PyProof.Rows L2
def M57 : Nat → Mir
  | 1 => mNeeds
  | 2 => mSafe
  | 3 => mAbove
  | 4 => mLeast
  | 5 => mApart
  | 6 => mCorner
  | 7 => mPairs
  | 8 => mMany
  | 10 => takeMir
  | 11 => mOne
  | 12 => mBoard
  | 13 => mOnes
  | _ => fun _ _ => none
def G57 (K : PySem.W.Frag) (f : Nat) : Sp := if f = 9 then spBag K else if f = 14 then spLaw K else gam K M57 f
theorem gam_none {K : PySem.W.Frag} {M : Nat → Mir} {f : Nat} (h : M f = fun _ _ => none) {vs H Q E} (g : gam K M f vs H Q E) : False := by
  obtain ⟨B, G, β, ds, x, β', h1, _⟩ := g
  rw [h] at h1
  cases h1
theorem hG57 (K : PySem.W.Frag) : ∀ f vs H Q E, gam K M57 f vs H Q E → G57 K f vs H Q E := by
  intro f vs H Q E g
  unfold G57
  split
  · rename_i e
    subst e
    exact (gam_none rfl g).elim
  · split
    · rename_i e
      subst e
      exact (gam_none rfl g).elim
    · exact g
theorem obl57 (K : PySem.W.Frag) : ∀ d ∈ tab, Obl (G57 K) K d := by
  have ev : ∀ d : Fd, d.id ≠ 9 → d.id ≠ 14 → (∀ ds β r, M57 d.id ds β = some r → evFd M57 d ds β = some r) → Obl (G57 K) K d := fun d n1 n2 hm => obl_ev (hG57 K) (fun vs H Q E g => by
    unfold G57 at g
    rw [if_neg n1, if_neg n2] at g
    exact g) hm
  intro d hd
  simp only [tab, List.mem_cons, List.not_mem_nil, or_false] at hd
  rcases hd with rfl | rfl | rfl | rfl | rfl | rfl | rfl | rfl | rfl | rfl | rfl | rfl | rfl | rfl
  · exact ev _ (by decide) (by decide) (hm1 rfl)
  · exact ev _ (by decide) (by decide) (hm2 rfl rfl)
  · exact ev _ (by decide) (by decide) (hm3 rfl rfl rfl)
  · exact ev _ (by decide) (by decide) (hm4 rfl rfl)
  · exact ev _ (by decide) (by decide) (hm5 rfl rfl)
  · exact ev _ (by decide) (by decide) (hm6 rfl)
  · exact ev _ (by decide) (by decide) (hm7 rfl rfl)
  · exact ev _ (by decide) (by decide) (hm8 rfl rfl rfl)
  · exact obl_bag rfl rfl rfl rfl
  · exact obl_take (M := M57) rfl rfl rfl rfl fun vs H Q E g => g
  · exact ev _ (by decide) (by decide) (hmOne rfl rfl rfl rfl rfl)
  · exact ev _ (by decide) (by decide) (hm12 rfl rfl)
  · exact ev _ (by decide) (by decide) (hm13 rfl rfl)
  · exact obl_law (hG57 K) (rest := d14.body.drop 1) rfl rfl (by decide) rfl rfl fun ns _ => law57 ⟨rfl, rfl, rfl, rfl, rfl, rfl, rfl, rfl, rfl⟩ _
abbrev R57 : PySem.W.OpenRow := PySem.W.OpenLaw.row PySem.Challenge.rw_labeltill_k57_whole_rules_beside_one_ano
abbrev hk57 : PySem.W.Hook := He.hookD 4 (fasOf tab) (fnsOf top tab)
def ob57 (s : PySem.W.SharedT) : He.AlD := He.obsDG 4 (fasOf tab) (fnsOf top tab) (HandSHeadRun.getT s)
theorem obe57 (s : PySem.W.SharedT) : ob57 s = hk57.obs s.abs := He.obsDG_eq (HandSHeadRun.getT_eq s)
def loose57 : List Str := ["least_needs", "is_safe_rule", "rule_above", "least_rule", "apart_for", "corner", "pairs_below", "how_many_rules", "_law_bag", "_law_take", "_law_one", "_law_small_board", "_law_safe_ones"]
theorem run57 (w : World) : HandSHeadRun.RunEq R57 (PySem.W.view R57.prog [15]) hk57 ob57 4000 loose57 w := by
  intro os
  kernel_rfl
end LT
open PySem PySem.W PySem.Calls PyProof.Rows
theorem PySem.Challenge.cw_labeltill_k57_whole_rules_beside_one_ano_holds : PySem.Challenge.rw_labeltill_k57_whole_rules_beside_one_ano.Holds := by
  w_on; o_law
  refine HandSHeadRun.head_any (r := OpenLaw.row PySem.Challenge.rw_labeltill_k57_whole_rules_beside_one_ano) (q := view (OpenLaw.row PySem.Challenge.rw_labeltill_k57_whole_rules_beside_one_ano).prog [15]) (H := LT.hk57) (ob := LT.ob57) (M := 4000) (loose := LT.loose57) (d := HandSHeadRun.topDef (OpenLaw.row PySem.Challenge.rw_labeltill_k57_whole_rules_beside_one_ano).prog 15) (kwd := []) LT.obe57
    (by kernel_rfl) (fun s => by kernel_rfl) LT.run57 (by kernel_rfl) (by kernel_rfl) (by kernel_rfl) (by rfl) (by first | assumption | decide +kernel) (by decide +kernel) ⟨rfl, rfl, rfl, rfl, rfl, by decide +kernel⟩ ?hw ?hc
  case hw => w_witness2
  case hc =>
    refine L2.walk_ofE (l := PySem.Challenge.rw_labeltill_k57_whole_rules_beside_one_ano) (n := 63) (k := LT.tab.length) (x := "_law_script") (CX := L2.CX0) rfl (by decide) (by kernel_rfl) ⟨rfl, by decide, by decide⟩ ?F (fun _ _ _ _ z => z)
    intro w mg fa h Y G hmg0
    obtain ⟨K, KX, c⟩ := Y
    have hmg : mg (LT.d14.name : PySem.Str) = some (.ref fa) := by
      have e : (HandSHeadRun.topDef (OpenLaw.row PySem.Challenge.rw_labeltill_k57_whole_rules_beside_one_ano).prog 15).name = LT.d14.name := by kernel_rfl
      rw [← e]
      exact hmg0
    obtain ⟨fd, hb, hF⟩ := LT.whole (l := PySem.Challenge.rw_labeltill_k57_whole_rules_beside_one_ano) (w := w) (Γ := LT.G57 K) LT.d14 (by simp [LT.tab]) (x := "_law_script") rfl KX G hmg c LT.chk (LT.obl57 K)
    exact ⟨K, fd, _, KX, hb, fun H a ns hl _ hS => ⟨a, ns, rfl, hS, hl, fun _ => rfl⟩, hF⟩

