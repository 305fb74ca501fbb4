import PyProof.Rows.All
import Wide.All
import OpenK.AllK
import Wide.FinOn
import HandS.ForSpec
import HandS.Defaults
import HandS.HeadHook1
import HandS.HeadHook2
import HandS.HeadHook3
import HandS.Head2
import PySem.Challenge.RW_wallseal_k80_tables_by_names
import HandS.Comp
import HandS.Dict
import HandS.Iter
import HandS.Text
import HandS.TupAny
import HandS.TupMul
import HandS.Deep
import HandS.FStr
import HandS.IsInst
import HandS.Flow
import HandS.More
import HandS.Codes
import HandS.RaiseMore
import HandS.Zip
import HandS.WordsDict
import HandS.Strs
import HandS.DictComp
import HandS.Rev
import HandS.ExcOwn
import KE.KUnpackStar
import HandS.New0
import HandS.Style
import HandS.DictTup
import KE.GoesZip
import KE.GoesMore
import HandS.Ends
import HandS.HeadEnd
set_option Elab.async false
set_option linter.all false
set_option maxRecDepth 100000
set_option maxHeartbeats 4000000
/-! What the head's looks need. -/
namespace Ev
open PySem PySem.Spec PyProof.Rows L2

/-- a value: tuples are trees; kt: a tuple of the module's own; ref: a mutable object of the store; gl: what a module's name stands for -/
inductive D where
  | non | bl (b : Bool) | int (i : Int) | str (x : Str) | tup (xs : List D) | kt (xs : List D) | ref (i : Nat) | gl (x : Str) | ty (n : String)

def mapO [DecidableEq Str] [DecidableEq Key] [DecidableEq String] [(α : Type) → GetElem? (List α) Nat α fun l i => i < l.length] [(α : Type) → Append (List α)] [(i j : Int) → Decidable (i < j)] [(i j : Int) → Decidable (i ≤ j)] {α β : Type} (f : α → Option β) : List α → Option (List β)
  | [] => some []
  | x :: xs => match f x with
    | some y => (match mapO f xs with
      | some ys => some (y :: ys)
      | none => none)
    | none => none
/-- an instance's class: its fields' names, its methods' -/
structure CI where
  fields : List Str
  meths : List Str
/-- the program as the evaluator knows it -/
structure Pg where
  val : List (Str × D)
  tab : List (Str × List (Str × D))
  cls : List (Str × CI)
/-- a class, a built-in type, as an object -/
inductive Tg where
  | ty (n : String)
  | own (c : Str)
  deriving DecidableEq
def Tg.v [DecidableEq Str] [DecidableEq Key] [DecidableEq String] [(α : Type) → GetElem? (List α) Nat α fun l i => i < l.length] [(α : Type) → Append (List α)] [(i j : Int) → Decidable (i < j)] [(i j : Int) → Decidable (i ≤ j)] (K : PySem.W.Frag) : Tg → Value
  | .ty n => .type n
  | .own c => .ref (He.ga K c)
/-- isinstance of types: alike, or bool for int -/
def isiT [DecidableEq Str] [DecidableEq Key] [DecidableEq String] [(α : Type) → GetElem? (List α) Nat α fun l i => i < l.length] [(α : Type) → Append (List α)] [(i j : Int) → Decidable (i < j)] [(i j : Int) → Decidable (i ≤ j)] (t c : Tg) : Bool := decide (t = c) || (decide (t = .ty "bool") && decide (c = .ty "int"))
def tgNames [DecidableEq Str] [DecidableEq Key] [DecidableEq String] [(α : Type) → GetElem? (List α) Nat α fun l i => i < l.length] [(α : Type) → Append (List α)] [(i j : Int) → Decidable (i < j)] [(i j : Int) → Decidable (i ≤ j)] : List String := ["str", "tuple", "int", "bool", "list", "dict", "NoneType"]

/-- a def of the program: P, Q its parameters, N its slots -/
structure FI where
  x : Str
  q : Str
  params : Arguments
  body : List Stmt
  scope : Scope
  P : List Str
  Q : List Str
  N : List Str
  dvs : List D
  kws : List (Str × D)
  top : Bool
/-- mts: a class's methods, by the defs' keys; mks: a class's __init__ -/
structure Gf where
  g : Pg
  fns : List (Str × FI)
  mts : List (Str × List (Str × Str))
  mks : List (Str × Str)
  mk0 : List Str
/-- the program: tk the places of the empty dicts whose keys are tuples -/
structure Px where
  gf : Gf
  tk : List Pos
inductive BF where
  | len | abs | max | min | sum | divmod | int | str | list | tuple | dict | isi | all | any | repr
def bfs [DecidableEq Str] [DecidableEq Key] [DecidableEq String] [(α : Type) → GetElem? (List α) Nat α fun l i => i < l.length] [(α : Type) → Append (List α)] [(i j : Int) → Decidable (i < j)] [(i j : Int) → Decidable (i ≤ j)] : List (Str × BF) := [("len", .len), ("abs", .abs), ("max", .max), ("min", .min), ("sum", .sum), ("divmod", .divmod), ("int", .int), ("str", .str), ("list", .list), ("tuple", .tuple), ("dict", .dict), ("isinstance", .isi), ("all", .all), ("any", .any), ("repr", .repr)]
def tys [DecidableEq Str] [DecidableEq Key] [DecidableEq String] [(α : Type) → GetElem? (List α) Nat α fun l i => i < l.length] [(α : Type) → Append (List α)] [(i j : Int) → Decidable (i < j)] [(i j : Int) → Decidable (i ≤ j)] : List (Str × String) := [("int", "int"), ("str", "str"), ("bool", "bool"), ("list", "list"), ("tuple", "tuple"), ("dict", "dict")]
/-- the names of the built-ins that the evaluator knows -/
def bltNames [DecidableEq Str] [DecidableEq Key] [DecidableEq String] [(α : Type) → GetElem? (List α) Nat α fun l i => i < l.length] [(α : Type) → Append (List α)] [(i j : Int) → Decidable (i < j)] [(i j : Int) → Decidable (i ≤ j)] : List Str := bfs.map (·.1) ++ tys.map (·.1) ++ (["range", "reversed", "enumerate", "zip"] : List Str)

def ownNames [DecidableEq Str] [DecidableEq Key] [DecidableEq String] [(α : Type) → GetElem? (List α) Nat α fun l i => i < l.length] [(α : Type) → Append (List α)] [(i j : Int) → Decidable (i < j)] [(i j : Int) → Decidable (i ≤ j)] (sc : Scope) : List Str := sc.names.filterMap fun y => match y.2 with
  | .local => some y.1
  | .cell => some y.1
  | _ => none
def kidsG [DecidableEq Str] [DecidableEq Key] [DecidableEq String] [(α : Type) → GetElem? (List α) Nat α fun l i => i < l.length] [(α : Type) → Append (List α)] [(i j : Int) → Decidable (i < j)] [(i j : Int) → Decidable (i ≤ j)] : List Comprehension → List Expr
  | [] => []
  | g :: r => g.target :: g.iter :: (g.ifs ++ kidsG r)
def kidsK [DecidableEq Str] [DecidableEq Key] [DecidableEq String] [(α : Type) → GetElem? (List α) Nat α fun l i => i < l.length] [(α : Type) → Append (List α)] [(i j : Int) → Decidable (i < j)] [(i j : Int) → Decidable (i ≤ j)] : List Keyword → List Expr
  | [] => []
  | k :: r => k.value :: kidsK r
/-- the parts of a tree, and the names of its own block -/
def kids [DecidableEq Str] [DecidableEq Key] [DecidableEq String] [(α : Type) → GetElem? (List α) Nat α fun l i => i < l.length] [(α : Type) → Append (List α)] [(i j : Int) → Decidable (i < j)] [(i j : Int) → Decidable (i ≤ j)] : Expr → List Expr × List Str
  | .BoolOp _ vs _ => (vs, [])
  | .BinOp a _ b _ => ([a, b], [])
  | .UnaryOp _ a _ => ([a], [])
  | .IfExp a b c _ => ([a, b, c], [])
  | .Dict ks vs _ => (ks.filterMap id ++ vs, [])
  | .ListComp e gs sc _ => (e :: kidsG gs, ownNames sc)
  | .DictComp k e gs sc _ => (k :: e :: kidsG gs, ownNames sc)
  | .Compare a _ bs _ => (a :: bs, [])
  | .Call f es ks _ => (f :: (es ++ kidsK ks), [])
  | .FormattedValue a _ _ _ => ([a], [])
  | .JoinedStr vs _ => (vs, [])
  | .Attribute a _ _ => ([a], [])
  | .Subscript a b _ => ([a, b], [])
  | .Starred a _ => ([a], [])
  | .List es _ => (es, [])
  | .Tuple es _ _ => (es, [])
  | .Slice a b c _ => (a.toList ++ b.toList ++ c.toList, [])
  | _ => ([], [])
def namesE [DecidableEq Str] [DecidableEq Key] [DecidableEq String] [(α : Type) → GetElem? (List α) Nat α fun l i => i < l.length] [(α : Type) → Append (List α)] [(i j : Int) → Decidable (i < j)] [(i j : Int) → Decidable (i ≤ j)] : Nat → Expr → List Str
  | 0, _ => []
  | n + 1, e => (kids e).2 ++ (kids e).1.flatMap (namesE n)
def handB [DecidableEq Str] [DecidableEq Key] [DecidableEq String] [(α : Type) → GetElem? (List α) Nat α fun l i => i < l.length] [(α : Type) → Append (List α)] [(i j : Int) → Decidable (i < j)] [(i j : Int) → Decidable (i ≤ j)] : ExceptHandler → List Stmt
  | .ExceptHandler _ _ b _ => b
def kidsS [DecidableEq Str] [DecidableEq Key] [DecidableEq String] [(α : Type) → GetElem? (List α) Nat α fun l i => i < l.length] [(α : Type) → Append (List α)] [(i j : Int) → Decidable (i < j)] [(i j : Int) → Decidable (i ≤ j)] : Stmt → List Expr × List Stmt
  | .Return (some e) _ => ([e], [])
  | .Assign ts e _ => (e :: ts, [])
  | .AugAssign t _ e _ => ([t, e], [])
  | .For t e b o _ => ([t, e], b ++ o)
  | .While c b o _ => ([c], b ++ o)
  | .If c b o _ => ([c], b ++ o)
  | .Raise e _ _ => (e.toList, [])
  | .Try b hs o f _ => ([], b ++ hs.flatMap handB ++ o ++ f)
  | .Expr e _ => ([e], [])
  | _ => ([], [])
def namesS [DecidableEq Str] [DecidableEq Key] [DecidableEq String] [(α : Type) → GetElem? (List α) Nat α fun l i => i < l.length] [(α : Type) → Append (List α)] [(i j : Int) → Decidable (i < j)] [(i j : Int) → Decidable (i ≤ j)] : Nat → Stmt → List Str
  | 0, _ => []
  | n + 1, s => (kidsS s).1.flatMap (namesE 30) ++ (kidsS s).2.flatMap (namesS n)
def addNew [DecidableEq Str] [DecidableEq Key] [DecidableEq String] [(α : Type) → GetElem? (List α) Nat α fun l i => i < l.length] [(α : Type) → Append (List α)] [(i j : Int) → Decidable (i < j)] [(i j : Int) → Decidable (i ≤ j)] (acc xs : List Str) : List Str := xs.foldl (fun a x => if a.contains x then a else a ++ [x]) acc
/-- constants of the module -/
def constV [DecidableEq Str] [DecidableEq Key] [DecidableEq String] [(α : Type) → GetElem? (List α) Nat α fun l i => i < l.length] [(α : Type) → Append (List α)] [(i j : Int) → Decidable (i < j)] [(i j : Int) → Decidable (i ≤ j)] (g : List (Str × D)) : Nat → Expr → Option D
  | 0, _ => none
  | _ + 1, .Constant c _ _ => (match c with
    | .int i => some (.int i)
    | .str x => some (.str x)
    | .bool b => some (.bl b)
    | .none => some .non
    | _ => none)
  | _ + 1, .UnaryOp .USub (.Constant (.int i) _ _) _ => some (.int (-i))
  | _ + 1, .Name x _ => g.lookup x
  | n + 1, .Tuple es _ _ => (mapO (constV g n) es).map .kt
  | _, _ => none
def fiOf [DecidableEq Str] [DecidableEq Key] [DecidableEq String] [(α : Type) → GetElem? (List α) Nat α fun l i => i < l.length] [(α : Type) → Append (List α)] [(i j : Int) → Decidable (i < j)] [(i j : Int) → Decidable (i ≤ j)] (g : List (Str × D)) (x q : Str) (params : Arguments) (body : List Stmt) (scope : Scope) (top : Bool) : FI :=
  let P := params.args.map (·.arg)
  let Q := params.kwonlyargs.map (·.arg)
  { x := x, q := q, params := params, body := body, scope := scope, P := P, Q := Q, N := addNew (addNew (P ++ Q) (ownNames scope)) (body.flatMap (namesS 20)),
    dvs := (mapO (constV g 5) params.defaults).getD [], kws := (params.kwonlyargs.map (·.arg) |>.zip params.kw_defaults).filterMap fun p => p.2.bind fun e => (constV g 5 e).map (p.1, ·), top := top }
/-- what the text's top says -/
structure Txt where
  val : List (Str × D)
  tab : List (Str × List (Str × D))
  fns : List (Str × FI)
  cls : List (Str × List Str × List Str)
def methsOf [DecidableEq Str] [DecidableEq Key] [DecidableEq String] [(α : Type) → GetElem? (List α) Nat α fun l i => i < l.length] [(α : Type) → Append (List α)] [(i j : Int) → Decidable (i < j)] [(i j : Int) → Decidable (i ≤ j)] (g : List (Str × D)) (c : Str) : List Stmt → List (Str × Str × FI)
  | [] => []
  | .FunctionDef n a b _ _ _ sc _ _ _ :: r => (n, c ++ "." ++ n, fiOf g n (c ++ "." ++ n) a b sc false) :: methsOf g c r
  | _ :: r => methsOf g c r
/-- self.f = .. in a body -/
def selfF [DecidableEq Str] [DecidableEq Key] [DecidableEq String] [(α : Type) → GetElem? (List α) Nat α fun l i => i < l.length] [(α : Type) → Append (List α)] [(i j : Int) → Decidable (i < j)] [(i j : Int) → Decidable (i ≤ j)] : Nat → Stmt → List Str
  | 0, _ => []
  | n + 1, s => (match s with
    | .Assign [.Attribute (.Name x _) f _] _ _ => if x == ("self" : Str) then [f] else []
    | _ => []) ++ (kidsS s).2.flatMap (selfF n)
def fieldsOf [DecidableEq Str] [DecidableEq Key] [DecidableEq String] [(α : Type) → GetElem? (List α) Nat α fun l i => i < l.length] [(α : Type) → Append (List α)] [(i j : Int) → Decidable (i < j)] [(i j : Int) → Decidable (i ≤ j)] : List Stmt → List Str
  | [] => []
  | .FunctionDef _ _ b _ _ _ _ _ _ _ :: r => b.flatMap (selfF 20) ++ fieldsOf r
  | _ :: r => fieldsOf r
def tabOf [DecidableEq Str] [DecidableEq Key] [DecidableEq String] [(α : Type) → GetElem? (List α) Nat α fun l i => i < l.length] [(α : Type) → Append (List α)] [(i j : Int) → Decidable (i < j)] [(i j : Int) → Decidable (i ≤ j)] (g : List (Str × D)) : List (Option Expr) → List Expr → Option (List (Str × D))
  | [], [] => some []
  | some (.Constant (.str k) _ _) :: ks, v :: vs => (match constV g 5 v, tabOf g ks vs with
    | some d, some r => some ((k, d) :: r)
    | _, _ => none)
  | some (.Name x _) :: ks, v :: vs => (match g.lookup x, constV g 5 v, tabOf g ks vs with
    | some (.str k), some d, some r => some ((k, d) :: r)
    | _, _, _ => none)
  | _, _ => none
def txtOf [DecidableEq Str] [DecidableEq Key] [DecidableEq String] [(α : Type) → GetElem? (List α) Nat α fun l i => i < l.length] [(α : Type) → Append (List α)] [(i j : Int) → Decidable (i < j)] [(i j : Int) → Decidable (i ≤ j)] : List Stmt → List (Str × D) → List (Str × D)
  | [], g => g
  | .Assign [.Name x _] (.Dict _ _ _) _ :: r, g => txtOf r ((x, .gl x) :: g)
  | .Assign [.Name x _] e _ :: r, g => (match constV g 5 e with
    | some d => txtOf r ((x, d) :: g)
    | none => txtOf r g)
  | .FunctionDef n _ _ _ _ _ _ _ _ _ :: r, g => txtOf r ((n, .gl n) :: g)
  | .ClassDef n _ _ _ _ _ _ _ _ _ _ :: r, g => txtOf r ((n, .gl n) :: g)
  | _ :: r, g => txtOf r g
def tabsOf [DecidableEq Str] [DecidableEq Key] [DecidableEq String] [(α : Type) → GetElem? (List α) Nat α fun l i => i < l.length] [(α : Type) → Append (List α)] [(i j : Int) → Decidable (i < j)] [(i j : Int) → Decidable (i ≤ j)] (g : List (Str × D)) : List Stmt → List (Str × List (Str × D))
  | [] => []
  | .Assign [.Name x _] (.Dict ks vs _) _ :: r => (match tabOf g ks vs with
    | some t => (x, t) :: tabsOf g r
    | none => tabsOf g r)
  | _ :: r => tabsOf g r
def fnsOf [DecidableEq Str] [DecidableEq Key] [DecidableEq String] [(α : Type) → GetElem? (List α) Nat α fun l i => i < l.length] [(α : Type) → Append (List α)] [(i j : Int) → Decidable (i < j)] [(i j : Int) → Decidable (i ≤ j)] (g : List (Str × D)) : List Stmt → List (Str × FI)
  | [] => []
  | .FunctionDef n a b _ _ _ sc _ _ _ :: r => (n, fiOf g n n a b sc true) :: fnsOf g r
  | .ClassDef c _ _ b _ _ _ _ _ _ _ :: r => (methsOf g c b).map (·.2) ++ fnsOf g r
  | _ :: r => fnsOf g r
def baseOf [DecidableEq Str] [DecidableEq Key] [DecidableEq String] [(α : Type) → GetElem? (List α) Nat α fun l i => i < l.length] [(α : Type) → Append (List α)] [(i j : Int) → Decidable (i < j)] [(i j : Int) → Decidable (i ≤ j)] : List Expr → Option Str
  | [.Name x _] => some x
  | _ => none
/-- name, base, methods with keys, fields -/
def clssOf [DecidableEq Str] [DecidableEq Key] [DecidableEq String] [(α : Type) → GetElem? (List α) Nat α fun l i => i < l.length] [(α : Type) → Append (List α)] [(i j : Int) → Decidable (i < j)] [(i j : Int) → Decidable (i ≤ j)] (g : List (Str × D)) : List Stmt → List (Str × Option Str × List (Str × Str) × List Str)
  | [] => []
  | .ClassDef c bs _ b _ _ _ _ _ _ _ :: r => (c, baseOf bs, (methsOf g c b).map (fun m => (m.1, m.2.1)), addNew [] (fieldsOf b)) :: clssOf g r
  | _ :: r => clssOf g r
def upC [DecidableEq Str] [DecidableEq Key] [DecidableEq String] [(α : Type) → GetElem? (List α) Nat α fun l i => i < l.length] [(α : Type) → Append (List α)] [(i j : Int) → Decidable (i < j)] [(i j : Int) → Decidable (i ≤ j)] (l : List (Str × Option Str × List (Str × Str) × List Str)) : Nat → Str → List (Str × Str) × List Str × Bool
  | 0, _ => ([], [], false)
  | n + 1, c => (match l.lookup c with
    | none => ([], [], false)
    | some (b, ms, fs) => (match b with
      | none => (ms, fs, true)
      | some b => (let u := upC l n b; (ms ++ u.1, addNew fs u.2.1, u.2.2))))
def pxOf [DecidableEq Str] [DecidableEq Key] [DecidableEq String] [(α : Type) → GetElem? (List α) Nat α fun l i => i < l.length] [(α : Type) → Append (List α)] [(i j : Int) → Decidable (i < j)] [(i j : Int) → Decidable (i ≤ j)] (body : List Stmt) (tk : List Pos) : Px :=
  let g := txtOf body []
  let cs := clssOf g body
  let ok := cs.filter fun c => (upC cs 5 c.1).2.2
  { gf := { mk0 := ok.filterMap fun c => if ((upC cs 5 c.1).1.lookup ("__init__" : Str)).isNone then some c.1 else none, g := { val := g, tab := tabsOf g body, cls := ok.map fun c => (c.1, ⟨(upC cs 5 c.1).2.1, (upC cs 5 c.1).1.map (·.1)⟩) }, fns := fnsOf g body, mts := ok.map (fun c => (c.1, (upC cs 5 c.1).1)),
            mks := ok.filterMap fun c => ((upC cs 5 c.1).1.lookup ("__init__" : Str)).map (c.1, ·) }, tk := tk }

def okL : List Nat → Bool
  | [] => true
  | c :: r => Nat.blt c 2097152 && okL r
def codeL : List Nat → Nat
  | [] => 0
  | c :: r => 4194304 * codeL r + (c + 1)
theorem codeL_inj : ∀ {a b : List Nat}, okL a = true → okL b = true → codeL a = codeL b → a = b
  | [], [], _, _, _ => rfl
  | [], c :: r, _, _, h => by simp [codeL] at h
  | c :: r, [], _, _, h => by simp [codeL] at h
  | c :: r, d :: s, ha, hb, h => by
    simp only [okL, Bool.and_eq_true] at ha hb
    have h1 : c < 2097152 := Nat.le_of_ble_eq_true ha.1
    have h2 : d < 2097152 := Nat.le_of_ble_eq_true hb.1
    simp only [codeL] at h
    have e1 : c = d := by omega
    have e2 : codeL r = codeL s := by omega
    rw [e1, codeL_inj ha.2 hb.2 e2]
def okS (x : Str) : Bool := okL x.cps.toList
def codeS (x : Str) : Nat := codeL x.cps.toList
def sameS (x y : Str) : Bool := match okS x, okS y with
  | true, true => Nat.beq (codeS x) (codeS y)
  | _, _ => instDecidableEqStr x y |>.decide
theorem sameS_iff {x y : Str} : sameS x y = true ↔ x = y := by
  unfold sameS
  split
  · rename_i h1 h2
    refine ⟨fun e => ?_, fun e => by rw [e]; exact Nat.beq_refl _⟩
    have := codeL_inj h1 h2 (Nat.eq_of_beq_eq_true e)
    cases x; cases y
    congr 1
    exact Array.toList_inj.mp this
  · simp
def fS : DecidableEq Str := fun x y => match h : sameS x y with
  | true => isTrue (sameS_iff.mp h)
  | false => isFalse fun e => by rw [sameS_iff.mpr e] at h; cases h
theorem fS_eq : fS = instDecidableEqStr := Subsingleton.elim _ _
theorem map_inj' {α β : Type} {f : α → β} (hf : ∀ c d, f c = f d → c = d) : ∀ {a b : List α}, a.map f = b.map f → a = b
  | [], [], _ => rfl
  | [], _ :: _, h => by simp at h
  | _ :: _, [], h => by simp at h
  | c :: r, d :: s, h => by
    simp only [List.map_cons, List.cons.injEq] at h
    rw [hf _ _ h.1, map_inj' hf h.2]
theorem ofString_inj {a b : String} (h : Str.ofString a = Str.ofString b) : a = b := by
  rw [Str.ofString_eq_toList, Str.ofString_eq_toList] at h
  have h2 : a.toList.map Char.toNat = b.toList.map Char.toNat := by simpa using congrArg (fun z : Str => z.cps.toList) h
  have h3 : a.toList = b.toList := map_inj' (fun c d e => Char.toNat_inj.mp e) h2
  exact String.toList_inj.mp h3
def fZ : DecidableEq String := fun x y => match h : sameS (.ofString x) (.ofString y) with
  | true => isTrue (ofString_inj (sameS_iff.mp h))
  | false => isFalse fun e => by rw [sameS_iff.mpr (by rw [e])] at h; cases h
def fK : DecidableEq Key := fun a b => @instDecidableEqSum Int Str Int.instDecidableEq fS a b
noncomputable def getR {α : Type} (l : List α) : Nat → Option α := List.rec (motive := fun _ => Nat → Option α) (fun _ => none) (fun a _ ih n => Nat.rec (motive := fun _ => Option α) (some a) (fun k _ => ih k) n) l
theorem getR_eq {α : Type} : ∀ (l : List α) (n : Nat), getR l n = l[n]?
  | [], n => rfl
  | a :: l, 0 => rfl
  | a :: l, n + 1 => by
    have := getR_eq l n
    simp only [List.getElem?_cons_succ]
    rw [← this]
    rfl
noncomputable def fG : (α : Type) → GetElem? (List α) Nat α fun l i => i < l.length := fun α => { (inferInstance : GetElem? (List α) Nat α fun l i => i < l.length) with getElem? := fun l n => getR l n }
theorem fG_eq : fG = fun α => List.instGetElem?NatLtLength := by
  funext α
  have e : (fun (l : List α) (n : Nat) => getR l n) = fun l n => l[n]? := by funext l n; exact getR_eq l n
  unfold fG
  rw [e]
noncomputable def appR {α : Type} (l m : List α) : List α := List.rec (motive := fun _ => List α) m (fun a _ ih => a :: ih) l
theorem appR_eq {α : Type} : ∀ l m : List α, appR l m = l ++ m
  | [], m => rfl
  | a :: l, m => congrArg (a :: ·) (appR_eq l m)
noncomputable def fA : (α : Type) → Append (List α) := fun α => ⟨appR⟩
theorem fA_eq : fA = fun α => List.instAppend := by
  funext α
  have e : (appR : List α → List α → List α) = List.append := by funext l m; exact appR_eq l m
  unfold fA
  rw [e]
  rfl
def iltB : Int → Int → Bool
  | .ofNat a, .ofNat b => Nat.blt a b
  | .negSucc _, .ofNat _ => true
  | .ofNat _, .negSucc _ => false
  | .negSucc a, .negSucc b => Nat.blt b a
theorem iltB_iff : ∀ {i j : Int}, iltB i j = true ↔ i < j
  | .ofNat a, .ofNat b => by
    show Nat.ble (a + 1) b = true ↔ _
    rw [Nat.ble_eq]
    show a + 1 ≤ b ↔ (a : Int) < (b : Int)
    omega
  | .negSucc a, .ofNat b => by
    show true = true ↔ _
    have : Int.negSucc a < Int.ofNat b := Int.lt_of_lt_of_le (Int.negSucc_lt_zero a) (Int.natCast_nonneg b)
    exact ⟨fun _ => this, fun _ => rfl⟩
  | .ofNat a, .negSucc b => by
    show false = true ↔ _
    have h : ¬ Int.ofNat a < Int.negSucc b := fun h => by
      have := Int.lt_trans h (Int.negSucc_lt_zero b)
      exact absurd (Int.natCast_nonneg a) (by show ¬ (0 : Int) ≤ (a : Int); exact Int.not_le.mpr this)
    exact ⟨fun z => (nomatch z), fun z => absurd z h⟩
  | .negSucc a, .negSucc b => by
    show Nat.ble (b + 1) a = true ↔ _
    rw [Nat.ble_eq]
    omega
def fL (i j : Int) : Decidable (i < j) := match h : iltB i j with
  | true => isTrue (iltB_iff.mp h)
  | false => isFalse fun e => by rw [iltB_iff.mpr e] at h; cases h
def fE (i j : Int) : Decidable (i ≤ j) := match h : iltB j i with
  | true => isFalse fun e => absurd (iltB_iff.mp h) (Int.not_lt.mpr e)
  | false => isTrue (Int.not_lt.mp fun e => by rw [iltB_iff.mpr e] at h; cases h)
/-- a part of the text: so many left out, so many taken -/
def subB : List (Nat × Nat) → List Stmt → List Stmt
  | [], _ => []
  | (a, b) :: r, l => (l.drop a).take b ++ subB r ((l.drop a).drop b)
/-- classes with a part of their own text -/
def trimB (cs : List (Str × List (Nat × Nat))) (l : List Stmt) : List Stmt := l.map fun s => match s with
  | .ClassDef n a b body c d e f g h i => (match cs.lookup n with
    | some r => .ClassDef n a b (subB r body) c d e f g h i
    | none => s)
  | s => s
/-- where each def stands -/
def atsOf : List Stmt → List (Str × (Str × Option Str))
  | [] => []
  | .FunctionDef n _ _ _ _ _ _ _ _ _ :: r => (n, (n, none)) :: atsOf r
  | .ClassDef c _ _ b _ _ _ _ _ _ _ :: r => (b.filterMap fun s => match s with
    | .FunctionDef n _ _ _ _ _ _ _ _ _ => some (c ++ "." ++ n, (c, some n))
    | _ => none) ++ atsOf r
  | _ :: r => atsOf r
abbrev Ats := List (Str × (Str × Option Str))
def eqV (a b : Option (Option Value)) : Bool := decide (a = b)
theorem eqV_ok {a b : Option (Option Value)} (h : eqV a b = true) : a = b := of_decide_eq_true h
/-- a global's value -/
def gloB (K : PySem.W.Frag) (x : Str) (u : Value) : Bool := eqV (PySem.W.nsIn K mainGlobals x) (some (some u))
mutual
/-- a value of the heap is this datum -/
def repB (K : PySem.W.Frag) : D → Value → Bool
  | .non, .none => true
  | .bl b, .bool c => b == c
  | .int i, .int j _ => decide (i = j)
  | .str x, .str y _ => decide (x = y)
  | .gl x, .ref a => gloB K x (.ref a)
  | .kt ds, .ref a => (match K.lookup a with
    | some ⟨.type c, none, .seq its _, _⟩ => decide (c = "tuple") && (decide (its.size ≤ sizeLine) && repsB K ds its.toList)
    | _ => false)
  | _, _ => false
def repsB (K : PySem.W.Frag) : List D → List Value → Bool
  | [], [] => true
  | d :: ds, u :: us => repB K d u && repsB K ds us
  | _, _ => false
end
/-- the module's name x, a look at its value -/
def atG (K : PySem.W.Frag) (x : Str) (f : Value → Bool) : Bool := match PySem.W.nsIn K mainGlobals x with
  | some (some u) => f u
  | _ => false
/-- each entry is looked at -/
def allL [DecidableEq Str] [DecidableEq Key] [DecidableEq String] [(α : Type) → GetElem? (List α) Nat α fun l i => i < l.length] [(α : Type) → Append (List α)] [(i j : Int) → Decidable (i < j)] [(i j : Int) → Decidable (i ≤ j)] {α : Type} (l : List (Str × α)) (f : Str → α → Bool) : Bool := l.all fun q => match q with | (x, d) => f x d
/-- the same of a name's own value -/
def repX [DecidableEq Str] [DecidableEq Key] [DecidableEq String] [(α : Type) → GetElem? (List α) Nat α fun l i => i < l.length] [(α : Type) → Append (List α)] [(i j : Int) → Decidable (i < j)] [(i j : Int) → Decidable (i ≤ j)] (K : PySem.W.Frag) (x : Str) : D → Value → Bool
  | .gl y, .ref a => if y = x then true else gloB K y (.ref a)
  | d, u => repB K d u
def valB [DecidableEq Str] [DecidableEq Key] [DecidableEq String] [(α : Type) → GetElem? (List α) Nat α fun l i => i < l.length] [(α : Type) → Append (List α)] [(i j : Int) → Decidable (i < j)] [(i j : Int) → Decidable (i ≤ j)] (K : PySem.W.Frag) (g : Pg) : Bool := allL g.val fun x d => atG K x (repX K x d)
def tabB [DecidableEq Str] [DecidableEq Key] [DecidableEq String] [(α : Type) → GetElem? (List α) Nat α fun l i => i < l.length] [(α : Type) → Append (List α)] [(i j : Int) → Decidable (i < j)] [(i j : Int) → Decidable (i ≤ j)] (K : PySem.W.Frag) (g : Pg) : Bool := allL g.tab fun x kvs => atG K x fun u => match u with
  | .ref a => decide (a = He.ga K x) && allL kvs fun z d => (match PySem.W.nsIn K a z with
    | some (some w) => repB K d w
    | _ => false)
  | _ => false
def tabK (K : PySem.W.Frag) (g : Pg) : List (Option (List (Option (Str × Int)))) := g.tab.map fun q => He.dicW K (He.ga K q.1)
def tabW (w : World) (g : Pg) : List (Option (List (Option (Str × Int)))) := g.tab.map fun q => some (He.keysIn w.params (q.2.map (·.1)))
def clsA (K : PySem.W.Frag) (C : Addr) : Bool := PySem.W.plainGet K C Str.empty && (PySem.W.hasDictIn K C && (PySem.W.plainOver K C && He.eqO (PySem.W.findIn K (.ref C) "__setattr__") (some (some (.builtin "object.__setattr__")))))
def fr {α : Type} (n : Nat) (k : Nat → α) : α := HandSHeadRun.frNat n k
theorem fr_eq {α : Type} (n : Nat) (k : Nat → α) : fr n k = k n := HandSHeadRun.frNat_eq n k
def clsB [DecidableEq Str] [DecidableEq Key] [DecidableEq String] [(α : Type) → GetElem? (List α) Nat α fun l i => i < l.length] [(α : Type) → Append (List α)] [(i j : Int) → Decidable (i < j)] [(i j : Int) → Decidable (i ≤ j)] (K : PySem.W.Frag) (g : Pg) : Bool := allL g.cls fun c i => fr (He.ga K c) fun C => He.eqO (PySem.W.nsIn K mainGlobals c) (some (some (.ref C))) && (clsA K C && (PySem.W.keepIn K (.ref C) && (i.fields.all (fun f => He.eqO (PySem.W.findIn K (.ref C) f) (some none)) && (eqV (PySem.W.findIn K (.ref C) "__class__") (some (some (.builtin "object.__class__"))) &&
  decide (PySem.W.mroIn K C (.type "object") = some true)))))
def descB (K : PySem.W.Frag) : Bool := eqV (PySem.W.specialIn K (.builtin "object.__class__") "__get__") (some (some (.builtin "getset_descriptor.__get__"))) && decide (PySem.W.takesIn K (.builtin "object.__class__") = some true)
def tgs [DecidableEq Str] [DecidableEq Key] [DecidableEq String] [(α : Type) → GetElem? (List α) Nat α fun l i => i < l.length] [(α : Type) → Append (List α)] [(i j : Int) → Decidable (i < j)] [(i j : Int) → Decidable (i ≤ j)] (g : Pg) : List Tg := tgNames.map .ty ++ g.cls.map fun q => .own q.1
/-- the types, each with its value -/
def tgV (K : PySem.W.Frag) : List Tg → (List (Tg × Value) → Bool) → Bool
  | [], k => k []
  | .ty n :: r, k => tgV K r fun l => k ((.ty n, .type n) :: l)
  | .own c :: r, k => fr (He.ga K c) fun C => tgV K r fun l => k ((.own c, .ref C) :: l)
def isiB [DecidableEq Str] [DecidableEq Key] [DecidableEq String] [(α : Type) → GetElem? (List α) Nat α fun l i => i < l.length] [(α : Type) → Append (List α)] [(i j : Int) → Decidable (i < j)] [(i j : Int) → Decidable (i ≤ j)] (K : PySem.W.Frag) (g : Pg) : Bool := tgV K (tgs g) fun l => l.all fun t => l.all fun c => match t, c with
  | (t, v), (c, u) => decide (PySem.W.kitOne K v u = some (isiT t c))
def dvD : D → Option He.Dv
  | .non => some .non
  | .bl b => some (.bl b)
  | .int i => some (.int i)
  | .str x => some (.str x)
  | _ => none
def dvO (d : D) : He.Dv := (dvD d).getD .non
def atK [DecidableEq Str] [DecidableEq Key] [DecidableEq String] [(α : Type) → GetElem? (List α) Nat α fun l i => i < l.length] [(α : Type) → Append (List α)] [(i j : Int) → Decidable (i < j)] [(i j : Int) → Decidable (i ≤ j)] (ats : Ats) (k : Str) : Str × Option Str := (ats.lookup k).getD (k, none)
def dfOf [DecidableEq Str] [DecidableEq Key] [DecidableEq String] [(α : Type) → GetElem? (List α) Nat α fun l i => i < l.length] [(α : Type) → Append (List α)] [(i j : Int) → Decidable (i < j)] [(i j : Int) → Decidable (i ≤ j)] (at_ : Str × Option Str) (i : FI) : He.DefD := ⟨at_, i.x, i.q, i.params, i.body, i.scope, i.dvs.map dvO, i.kws.map fun q => (q.1, dvO q.2)⟩
def plainB [DecidableEq Str] [DecidableEq Key] [DecidableEq String] [(α : Type) → GetElem? (List α) Nat α fun l i => i < l.length] [(α : Type) → Append (List α)] [(i j : Int) → Decidable (i < j)] [(i j : Int) → Decidable (i ≤ j)] (i : FI) : Bool := i.params.posonlyargs.isEmpty && (i.params.vararg.isNone && (i.params.kwarg.isNone && (decide (i.params.args.map (·.arg) = i.P) && decide (i.params.kwonlyargs.map (·.arg) = i.Q))))
def kindB : Option NameKind → Bool
  | some .local => true
  | some .cell => true
  | _ => false
def nodB [DecidableEq Str] [DecidableEq Key] [DecidableEq String] [(α : Type) → GetElem? (List α) Nat α fun l i => i < l.length] [(α : Type) → Append (List α)] [(i j : Int) → Decidable (i < j)] [(i j : Int) → Decidable (i ≤ j)] : List Str → Bool
  | [] => true
  | x :: r => !r.contains x && nodB r
def scopeB [DecidableEq Str] [DecidableEq Key] [DecidableEq String] [(α : Type) → GetElem? (List α) Nat α fun l i => i < l.length] [(α : Type) → Append (List α)] [(i j : Int) → Decidable (i < j)] [(i j : Int) → Decidable (i ≤ j)] (N ps : List Str) (sc : Scope) : Bool := decide (sc.kind = .function) && (!sc.isCoroutine && (!sc.isGenerator && (nodB N && (decide (N.take ps.length = ps) && (ps.all (fun x => kindB (sc.names.lookup x)) && sc.names.all (fun y => decide (y.2 ≠ .free)))))))
/-- what the text alone says -/
def fixB [DecidableEq Str] [DecidableEq Key] [DecidableEq String] [(α : Type) → GetElem? (List α) Nat α fun l i => i < l.length] [(α : Type) → Append (List α)] [(i j : Int) → Decidable (i < j)] [(i j : Int) → Decidable (i ≤ j)] (ats : Ats) (gf : Gf) : Bool := (decide (gf.fns.length = ats.length) && (gf.fns.zip ats).all fun p => decide (p.1.1 = p.2.1) && decide (atK ats p.1.1 = p.2.2)) && allL gf.fns fun k i => plainB i && (scopeB i.N (i.P ++ i.Q) i.scope && (i.dvs.all (fun d => (dvD d).isSome) && (i.kws.all (fun q => (dvD q.2).isSome) && (!i.top || decide (ats.lookup k = some (k, none))))))
/-- a def that stands at a -/
def okA (K : PySem.W.Frag) (d : He.DefD) (a : Addr) : Bool := PySem.W.keepIn K (.ref a) && (match K.lookup a with
  | some ⟨_, _, .func fd, _⟩ => PySem.W.codeIn K fd.code d.qual && (He.dflB K fd.defaults (d.dvs K) && He.kwdB K fd.kwdefaults (d.kws K))
  | _ => false)
def fnA (K : PySem.W.Frag) (a : Addr) : He.FnW := match K.lookup a with
  | some ⟨_, _, .func fd, _⟩ => some (fd.name, fd.qualname, fd.params, fd.body, fd.scope, fd.globals, fd.closure, fd.builtins)
  | _ => none
/-- the def's place, forced -/
def fAt {α : Type} (K : PySem.W.Frag) (at_ : Str × Option Str) (k : Addr → α) : α := match at_ with
  | (x, none) => fr (He.fAd K (x, none)) k
  | (x, some m) => fr (He.fAd K (x, some m)) k
def fnB [DecidableEq Str] [DecidableEq Key] [DecidableEq String] [(α : Type) → GetElem? (List α) Nat α fun l i => i < l.length] [(α : Type) → Append (List α)] [(i j : Int) → Decidable (i < j)] [(i j : Int) → Decidable (i ≤ j)] (K : PySem.W.Frag) (ats : Ats) (gf : Gf) : Bool := (gf.fns.zip ats).all fun p => match p with
  | ((k, i), (_, at_)) => fAt K at_ fun a => okA K (dfOf at_ i) a && (!i.top || eqV (PySem.W.nsIn K mainGlobals k) (some (some (.ref a))))
def fnsK [DecidableEq Str] [DecidableEq Key] [DecidableEq String] [(α : Type) → GetElem? (List α) Nat α fun l i => i < l.length] [(α : Type) → Append (List α)] [(i j : Int) → Decidable (i < j)] [(i j : Int) → Decidable (i ≤ j)] (K : PySem.W.Frag) (ats : Ats) (gf : Gf) : List He.FnW := (gf.fns.zip ats).map fun p => match p with
  | (_, (_, at_)) => fAt K at_ (fnA K)
def fnsV [DecidableEq Str] [DecidableEq Key] [DecidableEq String] [(α : Type) → GetElem? (List α) Nat α fun l i => i < l.length] [(α : Type) → Append (List α)] [(i j : Int) → Decidable (i < j)] [(i j : Int) → Decidable (i ≤ j)] (ats : Ats) (gf : Gf) : List He.FnW := (gf.fns.zip ats).map fun p => match p with
  | ((_, i), (_, at_)) => (dfOf at_ i).val
/-- a set of addresses as one number -/
def maskL : List Addr → Nat
  | [] => 0
  | a :: r => maskL r ||| (1 <<< a)
/-- the same, off the heap -/
def okG (g : Addr → Option Obj) (S : Nat) (K : PySem.W.Frag) (d : He.DefD) (a : Addr) : Bool := S.testBit a && match g a with
  | some ⟨_, _, .func fd, _⟩ => (match fd.code with
    | .ref c => S.testBit c && (match g c with
      | some ⟨_, _, .fields vs, _⟩ => (match vs.toList with
        | _ :: .str n _ :: _ => n == d.qual
        | _ => false)
      | _ => false)
    | _ => false) && (He.dflB K fd.defaults (d.dvs K) && He.kwdB K fd.kwdefaults (d.kws K))
  | _ => false
def fnG (g : Addr → Option Obj) (a : Addr) : He.FnW := match g a with
  | some ⟨_, _, .func fd, _⟩ => some (fd.name, fd.qualname, fd.params, fd.body, fd.scope, fd.globals, fd.closure, fd.builtins)
  | _ => none
/-- a method's function -/
def isG (g : Addr → Option Obj) (S : Nat) (a : Addr) : Bool := S.testBit a && match g a with
  | some ⟨.type n, _, .func _, _⟩ => n == "function"
  | _ => false
def fnBg [DecidableEq Str] [DecidableEq Key] [DecidableEq String] [(α : Type) → GetElem? (List α) Nat α fun l i => i < l.length] [(α : Type) → Append (List α)] [(i j : Int) → Decidable (i < j)] [(i j : Int) → Decidable (i ≤ j)] (g : Addr → Option Obj) (S : Nat) (K : PySem.W.Frag) (ats : Ats) (gf : Gf) : Bool := (gf.fns.zip ats).all fun p => match p with
  | ((k, i), (_, at_)) => fAt K at_ fun a => okG g S K (dfOf at_ i) a && (!i.top || eqV (PySem.W.nsIn K mainGlobals k) (some (some (.ref a))))
def fnsG [DecidableEq Str] [DecidableEq Key] [DecidableEq String] [(α : Type) → GetElem? (List α) Nat α fun l i => i < l.length] [(α : Type) → Append (List α)] [(i j : Int) → Decidable (i < j)] [(i j : Int) → Decidable (i ≤ j)] (g : Addr → Option Obj) (K : PySem.W.Frag) (ats : Ats) (gf : Gf) : List He.FnW := (gf.fns.zip ats).map fun p => match p with
  | (_, (_, at_)) => fAt K at_ (fnG g)
def mtBg [DecidableEq Str] [DecidableEq Key] [DecidableEq String] [(α : Type) → GetElem? (List α) Nat α fun l i => i < l.length] [(α : Type) → Append (List α)] [(i j : Int) → Decidable (i < j)] [(i j : Int) → Decidable (i ≤ j)] (g : Addr → Option Obj) (S : Nat) (K : PySem.W.Frag) (ats : Ats) (gf : Gf) : Bool := allL gf.mts fun c ms => fr (He.ga K c) fun C => clsA K C && allL ms fun m k => fAt K (atK ats k) fun a => eqV (PySem.W.findIn K (.ref C) m) (some (some (.ref a))) && isG g S a
def mtB [DecidableEq Str] [DecidableEq Key] [DecidableEq String] [(α : Type) → GetElem? (List α) Nat α fun l i => i < l.length] [(α : Type) → Append (List α)] [(i j : Int) → Decidable (i < j)] [(i j : Int) → Decidable (i ≤ j)] (K : PySem.W.Frag) (ats : Ats) (gf : Gf) : Bool := allL gf.mts fun c ms => fr (He.ga K c) fun C => clsA K C && allL ms fun m k => fAt K (atK ats k) fun a => eqV (PySem.W.findIn K (.ref C) m) (some (some (.ref a))) && (PySem.W.isFn K (.ref a) && PySem.W.keepIn K (.ref a))
def mk0B (K : PySem.W.Frag) (gf : Gf) : Bool := gf.mk0.all fun c => fr (He.ga K c) fun C => PySem.W.makesIn K C && (eqV (PySem.W.findIn K (.ref C) "__init__") (some (some (.builtin "object.__init__"))) && (decide (PySem.W.mroIn K C (.type "object") = some true) && (PySem.W.keepIn K (.ref C) && He.eqO (PySem.W.nsIn K mainGlobals c) (some (some (.ref C))))))
def mksB [DecidableEq Str] [DecidableEq Key] [DecidableEq String] [(α : Type) → GetElem? (List α) Nat α fun l i => i < l.length] [(α : Type) → Append (List α)] [(i j : Int) → Decidable (i < j)] [(i j : Int) → Decidable (i ≤ j)] (K : PySem.W.Frag) (ats : Ats) (gf : Gf) : Bool := allL gf.mks fun c k => fr (He.ga K c) fun C => fAt K (atK ats k) fun a => PySem.W.makesIn K C && (eqV (PySem.W.findIn K (.ref C) "__init__") (some (some (.ref a))) && (PySem.W.isFn K (.ref a) && (PySem.W.keepIn K (.ref C) && He.eqO (PySem.W.nsIn K mainGlobals c) (some (some (.ref C))))))
def blB [DecidableEq Str] [DecidableEq Key] [DecidableEq String] [(α : Type) → GetElem? (List α) Nat α fun l i => i < l.length] [(α : Type) → Append (List α)] [(i j : Int) → Decidable (i < j)] [(i j : Int) → Decidable (i ≤ j)] (K : PySem.W.Frag) : Bool := bltNames.all fun x => (He.Fa.free x).ok K
def noLs (K : PySem.W.Frag) : Bool := K.all fun q => match q.2.cls with
  | .type n => !(n == "list")
  | _ => true
/-- all looks at once -/
def allB [DecidableEq Str] [DecidableEq Key] [DecidableEq String] [(α : Type) → GetElem? (List α) Nat α fun l i => i < l.length] [(α : Type) → Append (List α)] [(i j : Int) → Decidable (i < j)] [(i j : Int) → Decidable (i ≤ j)] (K : PySem.W.Frag) (ats : Ats) (gf : Gf) : Bool := valB K gf.g && (tabB K gf.g && (clsB K gf.g && (descB K && (isiB K gf.g && (fnB K ats gf && (mtB K ats gf && (mk0B K gf && (mksB K ats gf && (blB K && noLs K)))))))))
def forceK {α : Type} (g : Addr → Option Obj) : List Addr → (PySem.W.Frag → α) → α
  | [], k => k []
  | a :: r, k => match g a with
    | some o => HandSHeadRun.frNat a fun a => forceK g r fun K => k ((a, o) :: K)
    | none => forceK g r k
def nsRefs (g : Addr → Option Obj) (a : Addr) : List Addr := match g a with
  | some ⟨_, _, .dict es _, _⟩ => es.toList.flatMap fun e => He.refV e.val
  | _ => []
def fnRefs (g : Addr → Option Obj) (a : Addr) : List Addr := match g a with
  | some ⟨_, _, .func fd, _⟩ => He.refV fd.code ++ (He.refV fd.defaults ++ He.refV fd.kwdefaults)
  | some ⟨_, _, .seq its _, _⟩ => its.toList.flatMap He.refV
  | _ => []
/-- the top's names, in order -/
def topNs : List Stmt → List Str
  | [] => []
  | .FunctionDef n _ _ _ _ _ _ _ _ _ :: r => n :: topNs r
  | .ClassDef n _ _ _ _ _ _ _ _ _ _ :: r => n :: topNs r
  | .Assign [.Name x _] _ _ :: r => x :: topNs r
  | _ :: r => topNs r
def keyS (u : Value) (x : Str) : Bool := match u with
  | .str y _ => sameS y x
  | _ => false
/-- the entries of these names, in order -/
def pickNs : List DictEntry → List Str → List Addr
  | e :: r, n :: ns => if keyS e.key n then He.refV e.val ++ pickNs r ns else pickNs r (n :: ns)
  | _, _ => []
/-- what the looks need -/
def colG (names : List Str) (g : Addr → Option Obj) : List Addr :=
  mainGlobals :: (match g mainGlobals with
    | some ⟨_, _, .dict es _, _⟩ => pickNs es.toList names
    | _ => []).flatMap fun a => a :: match g a with
    | some ⟨_, _, .cls cd, _⟩ => cd.ns :: (nsRefs g cd.ns).flatMap fun f => f :: fnRefs g f
    | some ⟨_, _, .dict _ _, _⟩ => nsRefs g a
    | _ => fnRefs g a
noncomputable def pA (ats : Ats) (gf : Gf) (K : PySem.W.Frag) : Bool := @valB fS fK fZ fG fA fL fE K gf.g && (@tabB fS fK fZ fG fA fL fE K gf.g && (@clsB fS fK fZ fG fA fL fE K gf.g && (descB K && @isiB fS fK fZ fG fA fL fE K gf.g)))
/-- the looks at the rest, off the heap: the mask of what is looked at -/
noncomputable def pB (g : Addr → Option Obj) (S : Nat) (ats : Ats) (gf : Gf) (K : PySem.W.Frag) : Bool := @mtBg fS fK fZ fG fA fL fE g S K ats gf && (mk0B K gf && (@mksB fS fK fZ fG fA fL fE K ats gf && (@blB fS fK fZ fG fA fL fE K && noLs K)))
noncomputable def pD (g : Addr → Option Obj) (S : Nat) (ats : Ats) (gf : Gf) (K : PySem.W.Frag) : Bool × List He.FnW × List (Option (List (Option (Str × Int)))) := (@fnBg fS fK fZ fG fA fL fE g S K ats gf, @fnsG fS fK fZ fG fA fL fE g K ats gf, tabK K gf.g)
noncomputable def vD (ats : Ats) (gf : Gf) (w : World) : Bool × List He.FnW × List (Option (List (Option (Str × Int)))) := (true, @fnsV fS fK fZ fG fA fL fE ats gf, tabW w gf.g)
/-- a part of the heap, and the mask of its addresses -/
def forceM {α : Type} (g : Addr → Option Obj) (as : List Addr) (k : Nat → PySem.W.Frag → α) : α := fr (maskL as) fun S => forceK g as fun K => k S K
/-- the state behind the top -/
noncomputable abbrev endS (r : PySem.W.OpenRow) (M : Nat) (w : World) (os : OsState) : Option PySem.W.SharedT := HandSHeadRun.endF (HandSHeadRun.stepQ (HandSHeadRun.denQ HandSHeadRun.tabQ) r.prog w) M r.prog w os
end Ev
set_option Elab.async false
set_option linter.all false
set_option maxRecDepth 1000000
namespace K80
open PySem Ev PyProof.Rows L2
noncomputable def body : List Stmt := trimB [("Course", [(0, 5)]), ("Deed", [(0, 1)]), ("Box", [(0, 1)]), ("Sealed", [(0, 1)]), ("World", [(0, 1)]), ("Open", [(0, 1)]), ("Wall", [(0, 1)]), ("Runner", [(0, 3), (1, 2), (1, 5), (1, 1), (3, 2)]), ("Table", [(0, 7)]), ("TableWay", [(0, 4), (3, 1)]), ("BareWay", []), ("KeepingWay", [(0, 4), (2, 1)]), ("MergingWay", [(0, 4), (2, 1)]), ("Placer", [(0, 1), (1, 3)]), ("Program", [(0, 2), (5, 1)])] (subB [(2, 1), (13, 9), (1, 5), (1, 2), (1, 1), (1, 17), (1, 7), (1, 3), (1, 5), (1, 3), (1, 2), (1, 10), (1, 8), (2, 1), (1, 3), (1, 3), (1, 3), (1, 2), (2, 2), (1, 2), (1, 2), (3, 5), (1, 18), (2, 2), (1, 8)] PySem.Challenge.pw_wallseal_k80_tables_by_names.main.body)
noncomputable def px0 : Px := @pxOf fS fK fZ fG fA fL fE body []
noncomputable def tkI (k : Str) : List Pos := ((@List.lookup Str _ (@instBEqOfDecidableEq _ fS) k px0.gf.fns).toList.flatMap fun i => i.body.filterMap fun s => match s with | .Assign [.Attribute _ f _] (.Dict [] [] p) _ => if @instBEqOfDecidableEq _ fS |>.beq f ("known" : Str) then some p else none | _ => none)
noncomputable def px : Px := { px0 with tk := tkI "Table.__init__" ++ tkI "KeepingWay.__init__" ++ tkI "MergingWay.__init__" }
abbrev R80 : PySem.W.OpenRow := PySem.W.OpenLaw.row PySem.Challenge.rw_wallseal_k80_tables_by_names
noncomputable def ats : Ats := atsOf body
noncomputable def nms : List Str := topNs body
def names : List PySem.Str := (["_wall", "__name__", "Course", "WallError", "NoForm", "NoWall", "NoSeal", "Unmet", "NoTerm", "NoProgram", "NotLet", "TooHigh", "NoLimit", "NoName", "ANY_forms", "DEED_forms", "BOX", "PLAIN_forms", "HEADS", "MOST_HEIGHT", "LETTERS_forms", "MOST_LETTERS", "WIDTHS", "is_name", "is_form_to", "is_form", "want_form", "head_of_form", "head_of", "height_of_form", "near_forms", "are_near", "met_forms", "wide_of", "SIDES", "STAY", "BROKEN", "PLAIN_seals", "JOINED", "MARK_SIGNS"] : List String).map PySem.Str.ofString ++ (["LONGEST_MARK", "is_among", "is_mark", "is_asked", "head_in", "is_core", "is_low_seal", "is_seal", "want_seal", "inside", "parts_in", "Deed", "Box", "Sealed", "bare_of", "load_on", "head_of_thing", "word_of", "TERMS", "WALLS", "TERMS_IN", "Ended", "World", "Open", "Wall", "core_to_lay", "want_head", "with_name", "Runner", "want_limit", "course_of", "joined", "both", "STAY_TEXT", "ASKING", "SIDE_SIGNS", "BEHIND_CHECK", "BROKEN_SIGN", "BETWEEN", "BRACKETS"] : List String).map PySem.Str.ofString ++ (["asked_text", "core_text", "text_of", "LETTERS_terms", "MOST_SIGNS", "SHAPES", "is_whole", "is_written", "fits", "is_term", "want_term", "terms_in", "Table", "ANY_walls", "wall_ok", "want_wall", "other_side", "core_from", "seal_from", "seal_of", "STAYS", "TableWay", "by_table", "BareWay", "bare", "layers_of", "KeepingWay", "keeping", "MergingWay", "merging", "ANY_halls", "DEED_halls", "is_hall_form", "is_hall", "WALL", "NUM", "TEXT", "MOST_HALLS", "NO_LIST", "low"] : List String).map PySem.Str.ofString ++ (["walled", "of_number", "of_text", "of_name", "of_deed", "of_call", "of_let", "of_tell", "of_if", "of_sum", "of_size", "of_box", "of_read", "of_write", "of_same", "of_do", "WAYS", "Placer", "terms_within", "walls_in", "want_halls", "Program", "_law_pot", "_law_digit", "_law_pick", "_law_seal", "_law_named_right", "_law_shown", "_law_courses_right"] : List String).map PySem.Str.ofString

abbrev qv : Program := PySem.W.view R80.prog [166]
end K80
set_option Elab.async false
set_option linter.all false
set_option maxRecDepth 1000000
set_option maxHeartbeats 0
namespace K80
open PySem Ev PyProof.Rows L2
theorem hDf (w : World) (os : OsState) : (endS R80 20000 (w.withFollow "special-get-raises" false) os).map (fun s => forceM (HandSHeadRun.getT s) (colG nms (HandSHeadRun.getT s)) fun S K => pD (HandSHeadRun.getT s) S ats px.gf K) = some (vD ats px.gf (w.withFollow "special-get-raises" false)) := by kernel_rfl
end K80
set_option Elab.async false
set_option linter.all false
set_option maxRecDepth 1000000
set_option maxHeartbeats 0
namespace K80
open PySem Ev PyProof.Rows L2
theorem hAf (w : World) (os : OsState) : (endS R80 20000 (w.withFollow "special-get-raises" false) os).map (fun s => forceK (HandSHeadRun.getT s) (colG nms (HandSHeadRun.getT s)) (pA ats px.gf)) = some (true) := by kernel_rfl
end K80
set_option Elab.async false
set_option linter.all false
set_option maxRecDepth 1000000
set_option maxHeartbeats 0
namespace K80
open PySem Ev PyProof.Rows L2
theorem hLf (w : World) (os : OsState) : (endS R80 20000 (w.withFollow "special-get-raises" false) os).map (fun s => HandSHeadRun.looksF R80.prog (PySem.W.boot_heap (w.withFollow "special-get-raises" false).params) s.abs) = some (true) := by kernel_rfl
end K80
set_option Elab.async false
set_option linter.all false
set_option maxRecDepth 1000000
set_option maxHeartbeats 0
namespace K80
open PySem Ev PyProof.Rows L2
theorem hSf (w : World) (os : OsState) : (endS R80 20000 (w.withFollow "special-get-raises" false) os).map (fun s => HandSHeadRun.seenQ qv names (PySem.importedModules R80.prog.main.body) (fun s => PySem.W.xlAt qv [] s && PySem.W.recOk R80.toRowW.records s) s.abs) = some (PySem.W.openGood qv names) := by kernel_rfl
end K80
set_option Elab.async false
set_option linter.all false
set_option maxRecDepth 1000000
set_option maxHeartbeats 0
namespace K80
open PySem Ev PyProof.Rows L2
theorem hBf (w : World) (os : OsState) : (endS R80 20000 (w.withFollow "special-get-raises" false) os).map (fun s => forceM (HandSHeadRun.getT s) (colG nms (HandSHeadRun.getT s)) fun S K => pB (HandSHeadRun.getT s) S ats px.gf K) = some (true) := by kernel_rfl
end K80
set_option Elab.async false
set_option linter.all false
set_option maxRecDepth 1000000
set_option maxHeartbeats 0
namespace K80
open PySem Ev PyProof.Rows L2
theorem hDt (w : World) (os : OsState) : (endS R80 20000 (w.withFollow "special-get-raises" true) os).map (fun s => forceM (HandSHeadRun.getT s) (colG nms (HandSHeadRun.getT s)) fun S K => pD (HandSHeadRun.getT s) S ats px.gf K) = some (vD ats px.gf (w.withFollow "special-get-raises" true)) := by kernel_rfl
end K80
set_option Elab.async false
set_option linter.all false
set_option maxRecDepth 1000000
set_option maxHeartbeats 0
namespace K80
open PySem Ev PyProof.Rows L2
theorem hAt (w : World) (os : OsState) : (endS R80 20000 (w.withFollow "special-get-raises" true) os).map (fun s => forceK (HandSHeadRun.getT s) (colG nms (HandSHeadRun.getT s)) (pA ats px.gf)) = some (true) := by kernel_rfl
end K80
set_option Elab.async false
set_option linter.all false
set_option maxRecDepth 1000000
set_option maxHeartbeats 0
namespace K80
open PySem Ev PyProof.Rows L2
theorem hLt (w : World) (os : OsState) : (endS R80 20000 (w.withFollow "special-get-raises" true) os).map (fun s => HandSHeadRun.looksF R80.prog (PySem.W.boot_heap (w.withFollow "special-get-raises" true).params) s.abs) = some (true) := by kernel_rfl
end K80
set_option Elab.async false
set_option linter.all false
set_option maxRecDepth 1000000
set_option maxHeartbeats 0
namespace K80
open PySem Ev PyProof.Rows L2
theorem hSt (w : World) (os : OsState) : (endS R80 20000 (w.withFollow "special-get-raises" true) os).map (fun s => HandSHeadRun.seenQ qv names (PySem.importedModules R80.prog.main.body) (fun s => PySem.W.xlAt qv [] s && PySem.W.recOk R80.toRowW.records s) s.abs) = some (PySem.W.openGood qv names) := by kernel_rfl
end K80
set_option Elab.async false
set_option linter.all false
set_option maxRecDepth 1000000
set_option maxHeartbeats 0
namespace K80
open PySem Ev PyProof.Rows L2
theorem hBt (w : World) (os : OsState) : (endS R80 20000 (w.withFollow "special-get-raises" true) os).map (fun s => forceM (HandSHeadRun.getT s) (colG nms (HandSHeadRun.getT s)) fun S K => pB (HandSHeadRun.getT s) S ats px.gf K) = some (true) := by kernel_rfl
end K80
set_option Elab.async false
set_option linter.all false
set_option maxRecDepth 100000
set_option maxHeartbeats 4000000
/-! Data without addresses, the store, and how they stand in the layer's heap. -/
namespace Ev
open PySem PySem.Spec PyProof.Rows L2

/-- a mutable object; ro: a list that is only read; lkK, lkT: a dict while it is walked -/
inductive MO where
  | lst (xs : List D)
  | ro (xs : List D)
  | dK (kvs : List (Key × D))
  | dT (kvs : List (List Key × D))
  | ins (c : Str) (fs : List (Str × D))
  | lkK (kvs : List (Key × D))
  | lkT (kvs : List (List Key × D))
  | pot (t : List (Int × Int))
abbrev Store := List MO
abbrev Env1 := List (Option D)
abbrev Fs := List (Str × D)

/-- an end: a value, an exception (its class, its fields), or no claim -/
inductive R (α : Type) where
  | ok (a : α) (M : Store)
  | ex (C : Str) (fs : Fs) (M : Store)
  | no

/-- a written tuple -/
def KTup [DecidableEq Str] [DecidableEq Key] [DecidableEq String] [(α : Type) → GetElem? (List α) Nat α fun l i => i < l.length] [(α : Type) → Append (List α)] [(i j : Int) → Decidable (i < j)] [(i j : Int) → Decidable (i ≤ j)] (K : PySem.W.Frag) (a : Addr) (xs : List V) : Prop :=
    ∃ (o : Obj) (its : Array Value) (n : Nat), K.lookup a = some o ∧ o.cls = .type "tuple" ∧ o.data = .seq its n ∧ its.size ≤ sizeLine ∧ Vals xs its.toList ∧ o.dict = none
theorem KTup.sq {K : PySem.W.Frag} {H : Hp} {a : Addr} {xs : List V} (h : KTup K a xs) : SqT K H a xs := by
  obtain ⟨o, its, n, h1, h2, h3, h4, h5, _⟩ := h
  exact .inr ⟨o, its, n, h1, h2, h3, h4, h5⟩

/-- what the program is: K the written part, mg the module's names -/
structure Pw where
  K : PySem.W.Frag
  mg : Str → Option Value

mutual
inductive Rep (p : Pw) (ι : List Addr) (H : Hp) : V → D → Prop
  | non : Rep p ι H .non .non
  | bl (b : Bool) : Rep p ι H (.bl b) (.bl b)
  | int (i : Int) : Rep p ι H (.int i) (.int i)
  | str (x : Str) : Rep p ι H (.str x) (.str x)
  | tup {a : Addr} {xs : List V} {ds : List D} : H a = some (.tup xs) → RepL p ι H xs ds → Rep p ι H (.ref a) (.tup ds)
  | kt {a : Addr} {xs : List V} {ds : List D} : KTup p.K a xs → RepL p ι H xs ds → Rep p ι H (.ref a) (.kt ds)
  | ref {a : Addr} {i : Nat} : ι[i]? = some a → Rep p ι H (.ref a) (.ref i)
  | gl {x : Str} {u : Value} {v : V} : p.mg x = some u → RelV v u → Rep p ι H v (.gl x)
  | ty (n : String) : Rep p ι H (.ty n) (.ty n)
inductive RepL (p : Pw) (ι : List Addr) (H : Hp) : List V → List D → Prop
  | nil : RepL p ι H [] []
  | cons {v : V} {vs : List V} {d : D} {ds : List D} : Rep p ι H v d → RepL p ι H vs ds → RepL p ι H (v :: vs) (d :: ds)
end

/-- what stands later: more refs, all tuples -/
structure Mono0 (ι : List Addr) (H : Hp) (ι' : List Addr) (H' : Hp) : Prop where
  pre : ∃ t, ι' = ι ++ t
  tup : ∀ a xs, H a = some (.tup xs) → H' a = some (.tup xs)
  frz : ∀ a o u, H a = some (.frz o u) → H' a = some (.frz o u)
/-- .. and what is not of the store stays; what is new in the store was nowhere -/
structure Mono (ι : List Addr) (H : Hp) (ι' : List Addr) (H' : Hp) : Prop extends Mono0 ι H ι' H' where
  frame : ∀ a, a ∉ ι → H a ≠ none → H' a = H a
  fresh : ∀ a, a ∈ ι' → a ∈ ι ∨ H a = none
instance {ι ι' : List Addr} {H H' : Hp} : Coe (Mono ι H ι' H') (Mono0 ι H ι' H') := ⟨Mono.toMono0⟩
theorem Mono.refl {ι : List Addr} {H : Hp} : Mono ι H ι H := ⟨⟨⟨[], (List.append_nil ι).symm⟩, fun _ _ h => h, fun _ _ _ h => h⟩, fun _ _ _ => rfl, fun _ h => .inl h⟩
theorem Mono.trans {ι ι' ι'' : List Addr} {H H' H'' : Hp} (a : Mono ι H ι' H') (b : Mono ι' H' ι'' H'') : Mono ι H ι'' H'' := by
  obtain ⟨t, e⟩ := a.pre
  obtain ⟨u, e2⟩ := b.pre
  refine ⟨⟨⟨t ++ u, by rw [e2, e, List.append_assoc]⟩, fun c xs h => b.tup c xs (a.tup c xs h), fun c o u h => b.frz c o u (a.frz c o u h)⟩, fun c h1 h2 => ?_, fun c h => ?_⟩
  · have e1 := a.frame c h1 h2
    rw [b.frame c (fun m => (a.fresh c m).elim h1 h2) (by rw [e1]; exact h2), e1]
  · rcases b.fresh c h with h1 | h1
    · exact a.fresh c h1
    · by_cases hc : c ∈ ι
      · exact .inl hc
      · refine .inr ?_
        cases q : H c with
        | none => rfl
        | some u => rw [a.frame c hc (by rw [q]; exact nofun), q] at h1; cases h1
theorem Mono.at_ {ι ι' : List Addr} {H H' : Hp} (m : Mono ι H ι' H') {i : Nat} {a : Addr} (h : ι[i]? = some a) : ι'[i]? = some a := by
  obtain ⟨t, e⟩ := m.pre
  rw [e, List.getElem?_append_left (List.getElem?_eq_some_iff.mp h).1]
  exact h
theorem Mono0.at_ {ι ι' : List Addr} {H H' : Hp} (m : Mono0 ι H ι' H') {i : Nat} {a : Addr} (h : ι[i]? = some a) : ι'[i]? = some a := by
  obtain ⟨t, e⟩ := m.pre
  rw [e, List.getElem?_append_left (List.getElem?_eq_some_iff.mp h).1]
  exact h
/-- something new in the store -/
theorem Mono.new {ι : List Addr} {H : Hp} {b : Addr} {u : HO} (hp : H b = none) : Mono ι H (ι ++ [b]) (upd H b u) :=
  ⟨⟨⟨[b], rfl⟩, fun a xs e => by rw [upd_ne (ne_of_none e hp)]; exact e, fun a o v e => by rw [upd_ne (ne_of_none e hp)]; exact e⟩,
    fun a _ h => upd_ne (by rintro rfl; exact h hp), fun a h => (List.mem_append.mp h).imp id fun h => by rw [List.mem_singleton.mp h]; exact hp⟩
/-- something new beside the store -/
theorem Mono.new0 {ι : List Addr} {H : Hp} {b : Addr} {u : HO} (hp : H b = none) : Mono ι H ι (upd H b u) :=
  ⟨⟨⟨[], (List.append_nil ι).symm⟩, fun a xs e => by rw [upd_ne (ne_of_none e hp)]; exact e, fun a o v e => by rw [upd_ne (ne_of_none e hp)]; exact e⟩,
    fun a _ h => upd_ne (by rintro rfl; exact h hp), fun a h => .inl h⟩
/-- something of the store is written -/
theorem Mono.set {ι : List Addr} {H : Hp} {a : Addr} {u w : HO} (ha : a ∈ ι) (hw : H a = some w) (hnt : ∀ xs, w ≠ .tup xs) (hnf : ∀ o v, w ≠ .frz o v) : Mono ι H ι (upd H a u) := by
  refine ⟨⟨⟨[], (List.append_nil ι).symm⟩, fun b xs e => ?_, fun b o v e => ?_⟩, fun b h _ => upd_ne fun e => h (e ▸ ha), fun b h => .inl h⟩
  · rw [upd_ne]
    · exact e
    · rintro rfl
      rw [hw] at e
      cases e
      exact absurd rfl (hnt _)
  · rw [upd_ne]
    · exact e
    · rintro rfl
      rw [hw] at e
      cases e
      exact absurd rfl (hnf _ _)
section
variable {p : Pw} {ι ι' : List Addr} {H H' : Hp}
mutual
theorem Rep.mono0 (m : Mono0 ι H ι' H') : ∀ {v : V} {d : D}, Rep p ι H v d → Rep p ι' H' v d
  | _, _, .non => .non
  | _, _, .bl b => .bl b
  | _, _, .int i => .int i
  | _, _, .str x => .str x
  | _, _, .tup h l => .tup (m.tup _ _ h) (RepL.mono0 m l)
  | _, _, .kt h l => .kt h (RepL.mono0 m l)
  | _, _, .ref h => .ref (m.at_ h)
  | _, _, .gl h r => .gl h r
  | _, _, .ty n => .ty n
theorem RepL.mono0 (m : Mono0 ι H ι' H') : ∀ {vs : List V} {ds : List D}, RepL p ι H vs ds → RepL p ι' H' vs ds
  | _, _, .nil => .nil
  | _, _, .cons h l => .cons (Rep.mono0 m h) (RepL.mono0 m l)
end
theorem Rep.mono (m : Mono ι H ι' H') {v : V} {d : D} (h : Rep p ι H v d) : Rep p ι' H' v d := h.mono0 m.toMono0
theorem RepL.mono (m : Mono ι H ι' H') {v : List V} {d : List D} (h : RepL p ι H v d) : RepL p ι' H' v d := h.mono0 m.toMono0
theorem RepL.length : ∀ {vs : List V} {ds : List D}, RepL p ι H vs ds → vs.length = ds.length
  | _, _, .nil => rfl
  | _, _, .cons _ l => congrArg Nat.succ (RepL.length l)
theorem RepL.get : ∀ {vs : List V} {ds : List D} {i : Nat} {d : D}, RepL p ι H vs ds → ds[i]? = some d → ∃ v, vs[i]? = some v ∧ Rep p ι H v d
  | _, _, _, _, .nil, e => by simp at e
  | _, _, 0, _, .cons h _, e => by simp at e; subst e; exact ⟨_, rfl, h⟩
  | _, _, i + 1, _, .cons _ l, e => by
    obtain ⟨v, h1, h2⟩ := RepL.get (i := i) l (by simpa using e)
    exact ⟨v, by simpa using h1, h2⟩
theorem RepL.getV : ∀ {vs : List V} {ds : List D} {i : Nat} {v : V}, RepL p ι H vs ds → vs[i]? = some v → ∃ d, ds[i]? = some d ∧ Rep p ι H v d
  | _, _, _, _, .nil, e => by simp at e
  | _, _, 0, _, .cons h _, e => by simp at e; subst e; exact ⟨_, rfl, h⟩
  | _, _, i + 1, _, .cons _ l, e => by
    obtain ⟨v, h1, h2⟩ := RepL.getV (i := i) l (by simpa using e)
    exact ⟨v, by simpa using h1, h2⟩
theorem RepL.append : ∀ {vs ws : List V} {ds es : List D}, RepL p ι H vs ds → RepL p ι H ws es → RepL p ι H (vs ++ ws) (ds ++ es)
  | _, _, _, _, .nil, s => s
  | _, _, _, _, .cons h l, s => .cons h (RepL.append l s)
theorem RepL.take : ∀ {vs : List V} {ds : List D} (n : Nat), RepL p ι H vs ds → RepL p ι H (vs.take n) (ds.take n)
  | _, _, 0, _ => .nil
  | _, _, _ + 1, .nil => .nil
  | _, _, n + 1, .cons h l => .cons h (RepL.take n l)
theorem RepL.drop : ∀ {vs : List V} {ds : List D} (n : Nat), RepL p ι H vs ds → RepL p ι H (vs.drop n) (ds.drop n)
  | _, _, 0, r => r
  | _, _, _ + 1, .nil => .nil
  | _, _, n + 1, .cons _ l => RepL.drop n l
theorem RepL.set {v : V} {d : D} (h : Rep p ι H v d) : ∀ {vs : List V} {ds : List D} (i : Nat), RepL p ι H vs ds → RepL p ι H (vs.set i v) (ds.set i d)
  | _, _, _, .nil => .nil
  | _, _, 0, .cons _ l => .cons h l
  | _, _, i + 1, .cons q l => .cons q (RepL.set h i l)
theorem RepL.ints : ∀ {vs : List V} {ns : List Int}, RepL p ι H vs (ns.map D.int) → vs = ns.map V.int
  | _, [], h => by cases h; rfl
  | _, n :: ns, h => by
    cases h with
    | cons h l =>
      cases h
      rw [RepL.ints l] <;> rfl
theorem RepL.of_ints : ∀ (ns : List Int), RepL p ι H (ns.map V.int) (ns.map D.int)
  | [] => .nil
  | n :: ns => .cons (.int n) (RepL.of_ints ns)
end

/-- pairs with alike keys -/
inductive RepK {κ : Type} (p : Pw) (ι : List Addr) (H : Hp) : List (κ × V) → List (κ × D) → Prop
  | nil : RepK p ι H [] []
  | cons {k : κ} {v : V} {d : D} {vs : List (κ × V)} {ds : List (κ × D)} : Rep p ι H v d → RepK p ι H vs ds → RepK p ι H ((k, v) :: vs) ((k, d) :: ds)
section
variable {κ : Type} {p : Pw} {ι ι' : List Addr} {H H' : Hp}
theorem RepK.mono0 (m : Mono0 ι H ι' H') : ∀ {vs : List (κ × V)} {ds : List (κ × D)}, RepK p ι H vs ds → RepK p ι' H' vs ds
  | _, _, .nil => .nil
  | _, _, .cons h l => .cons (h.mono0 m) (RepK.mono0 m l)
theorem RepK.mono (m : Mono ι H ι' H') {vs : List (κ × V)} {ds : List (κ × D)} (h : RepK p ι H vs ds) : RepK p ι' H' vs ds := h.mono0 m.toMono0
theorem RepK.length : ∀ {vs : List (κ × V)} {ds : List (κ × D)}, RepK p ι H vs ds → vs.length = ds.length
  | _, _, .nil => rfl
  | _, _, .cons _ l => congrArg Nat.succ (RepK.length l)
theorem RepK.keys : ∀ {vs : List (κ × V)} {ds : List (κ × D)}, RepK p ι H vs ds → vs.map (·.1) = ds.map (·.1)
  | _, _, .nil => rfl
  | _, _, .cons _ l => congrArg (List.cons _) (RepK.keys l)
theorem RepK.append : ∀ {vs ws : List (κ × V)} {ds es : List (κ × D)}, RepK p ι H vs ds → RepK p ι H ws es → RepK p ι H (vs ++ ws) (ds ++ es)
  | _, _, _, _, .nil, s => s
  | _, _, _, _, .cons h l, s => .cons h (RepK.append l s)
end

/-- the next numbers of a pot, the drawn number -/
def digN (a b m : Int) : Int × Int × Int := if 0 < a then (a / m, b, a % m) else (a, (b * 48271 + 10037) % 2147483587, (b * 48271 + 10037) % 2147483587 * ((b * 48271 + 10037) % 2147483587) % 2147483563 / 5 % m)
/-- what will be drawn of a pot: of how many, which -/
def PotIs : Int → Int → List (Int × Int) → Prop
  | _, _, [] => True
  | a, b, (m, d) :: t => (digN a b m).2.2 = d ∧ PotIs (digN a b m).1 (digN a b m).2.1 t
/-- an object stands at a -/
def RepO [DecidableEq Str] [DecidableEq Key] [DecidableEq String] [(α : Type) → GetElem? (List α) Nat α fun l i => i < l.length] [(α : Type) → Append (List α)] [(i j : Int) → Decidable (i < j)] [(i j : Int) → Decidable (i ≤ j)] (p : Pw) (ι : List Addr) (H : Hp) (a : Addr) : MO → Prop
  | .lst ds => ∃ vs, H a = some (.lst vs) ∧ RepL p ι H vs ds
  | .ro ds => ∃ vs o, H a = some (.frz o (.lst vs)) ∧ RepL p ι H vs ds ∧ ∃ ns : List Int, ds = ns.map D.int
  | .dK ds => ∃ vs, H a = some (.dK vs) ∧ RepK p ι H vs ds
  | .dT ds => ∃ vs, H a = some (.dT vs) ∧ RepK p ι H vs ds
  | .ins c fs => ∃ dx vs, H a = some (.ins (He.ga p.K c) dx vs) ∧ RepK p ι H vs fs
  | .lkK ds => ∃ vs o, H a = some (.frz o (.dK vs)) ∧ RepK p ι H vs ds
  | .lkT ds => ∃ vs o, H a = some (.frz o (.dT vs)) ∧ RepK p ι H vs ds
  | .pot t => ∃ x y, H a = some (.lst [.int x, .int y]) ∧ PotIs x y t
theorem RepO.at_ {p : Pw} {ι : List Addr} {H : Hp} {a : Addr} {o : MO} (h : RepO p ι H a o) : ∃ u, H a = some u ∧ (∀ xs, u ≠ .tup xs) ∧ ∀ x, u ≠ .own x := by
  cases o with
  | lst _ => obtain ⟨_, e, _⟩ := h; exact ⟨_, e, fun _ q => (nomatch q), fun _ q => (nomatch q)⟩
  | ro _ => obtain ⟨_, _, e, _⟩ := h; exact ⟨_, e, fun _ q => (nomatch q), fun _ q => (nomatch q)⟩
  | dK _ => obtain ⟨_, e, _⟩ := h; exact ⟨_, e, fun _ q => (nomatch q), fun _ q => (nomatch q)⟩
  | dT _ => obtain ⟨_, e, _⟩ := h; exact ⟨_, e, fun _ q => (nomatch q), fun _ q => (nomatch q)⟩
  | ins _ _ => obtain ⟨_, _, e, _⟩ := h; exact ⟨_, e, fun _ q => (nomatch q), fun _ q => (nomatch q)⟩
  | lkK _ => obtain ⟨_, _, e, _⟩ := h; exact ⟨_, e, fun _ q => (nomatch q), fun _ q => (nomatch q)⟩
  | lkT _ => obtain ⟨_, _, e, _⟩ := h; exact ⟨_, e, fun _ q => (nomatch q), fun _ q => (nomatch q)⟩
  | pot _ => obtain ⟨_, _, e, _⟩ := h; exact ⟨_, e, fun _ q => (nomatch q), fun _ q => (nomatch q)⟩
theorem RepO.mono0 {p : Pw} {ι ι' : List Addr} {H H' : Hp} {a : Addr} {o : MO} (h : RepO p ι H a o) (m : Mono0 ι H ι' H') (e : H' a = H a) : RepO p ι' H' a o := by
  cases o with
  | lst _ => obtain ⟨vs, q, r⟩ := h; exact ⟨vs, e.trans q, r.mono0 m⟩
  | ro _ => obtain ⟨vs, o, q, r, z⟩ := h; exact ⟨vs, o, e.trans q, r.mono0 m, z⟩
  | dK _ => obtain ⟨vs, q, r⟩ := h; exact ⟨vs, e.trans q, r.mono0 m⟩
  | dT _ => obtain ⟨vs, q, r⟩ := h; exact ⟨vs, e.trans q, r.mono0 m⟩
  | ins _ _ => obtain ⟨dx, vs, q, r⟩ := h; exact ⟨dx, vs, e.trans q, r.mono0 m⟩
  | lkK _ => obtain ⟨vs, o, q, r⟩ := h; exact ⟨vs, o, e.trans q, r.mono0 m⟩
  | lkT _ => obtain ⟨vs, o, q, r⟩ := h; exact ⟨vs, o, e.trans q, r.mono0 m⟩
  | pot _ => obtain ⟨x, y, q, r⟩ := h; exact ⟨x, y, e.trans q, r⟩

theorem RepO.mono {p : Pw} {ι ι' : List Addr} {H H' : Hp} {a : Addr} {o : MO} (h : RepO p ι H a o) (m : Mono ι H ι' H') (e : H' a = H a) : RepO p ι' H' a o := h.mono0 m.toMono0 e
/-- the store stands -/
structure RepM (p : Pw) (ι : List Addr) (H : Hp) (M : Store) : Prop where
  len : ι.length = M.length
  nd : ι.Nodup
  at_ : ∀ (i : Nat) (a : Addr) (o : MO), ι[i]? = some a → M[i]? = some o → RepO p ι H a o
section
variable {p : Pw} {ι : List Addr} {H : Hp} {M : Store} {a b : Addr} {i : Nat} {o : MO}
theorem RepM.get (m : RepM p ι H M) (h : M[i]? = some o) : ∃ a, ι[i]? = some a ∧ RepO p ι H a o := by
  have hi : i < ι.length := by rw [m.len]; exact (List.getElem?_eq_some_iff.mp h).1
  exact ⟨ι[i], List.getElem?_eq_getElem hi, m.at_ i _ o (List.getElem?_eq_getElem hi) h⟩
theorem RepM.some_of (m : RepM p ι H M) (h : ι[i]? = some a) : ∃ o, M[i]? = some o ∧ RepO p ι H a o := by
  have hi : i < M.length := by rw [← m.len]; exact (List.getElem?_eq_some_iff.mp h).1
  exact ⟨M[i], List.getElem?_eq_getElem hi, m.at_ i a _ h (List.getElem?_eq_getElem hi)⟩
theorem RepM.fresh (m : RepM p ι H M) (hp : H b = none) : b ∉ ι := fun hm => by
  obtain ⟨i, hi, e⟩ := List.mem_iff_getElem.mp hm
  obtain ⟨o, _, r⟩ := m.some_of (i := i) (a := b) (by rw [List.getElem?_eq_getElem hi, e])
  obtain ⟨u, q, _⟩ := r.at_
  rw [hp] at q
  cases q
/-- a heap with more: the store as it was -/
theorem RepM.keep {H' : Hp} (m : RepM p ι H M) (t : ∀ a xs, H a = some (.tup xs) → H' a = some (.tup xs)) (tf : ∀ a o u, H a = some (.frz o u) → H' a = some (.frz o u)) (k : ∀ a, a ∈ ι → H' a = H a) : RepM p ι H' M :=
  ⟨m.len, m.nd, fun i a o h1 h2 => (m.at_ i a o h1 h2).mono0 ⟨⟨[], (List.append_nil ι).symm⟩, t, tf⟩ (k a (List.mem_of_getElem? h1))⟩
/-- something new that is not tracked by the store -/
theorem RepM.upd_new {u : HO} (m : RepM p ι H M) (hp : H b = none) : RepM p ι (upd H b u) M ∧ Mono ι H ι (upd H b u) := by
  have t : ∀ a xs, H a = some (.tup xs) → upd H b u a = some (.tup xs) := fun a xs e => by rw [upd_ne (ne_of_none e hp)]; exact e
  have tf : ∀ a o v, H a = some (.frz o v) → upd H b u a = some (.frz o v) := fun a o v e => by rw [upd_ne (ne_of_none e hp)]; exact e
  exact ⟨m.keep t tf fun a ha => upd_ne fun e => m.fresh hp (e ▸ ha), .new0 hp⟩
/-- a new object -/
theorem RepM.alloc {u : HO} {o : MO} (m : RepM p ι H M) (hp : H b = none) (h : RepO p (ι ++ [b]) (upd H b u) b o) :
    RepM p (ι ++ [b]) (upd H b u) (M ++ [o]) ∧ Mono ι H (ι ++ [b]) (upd H b u) ∧ (ι ++ [b])[M.length]? = some b := by
  have t : ∀ a xs, H a = some (.tup xs) → upd H b u a = some (.tup xs) := fun a xs e => by rw [upd_ne (ne_of_none e hp)]; exact e
  have mo : Mono ι H (ι ++ [b]) (upd H b u) := .new hp
  have nb := m.fresh hp
  refine ⟨⟨by simp [m.len], ?_, fun i a o' h1 h2 => ?_⟩, mo, by rw [← m.len]; simp⟩
  · rw [List.nodup_append]
    exact ⟨m.nd, by simp, fun a ha c hc => by
      rw [List.mem_singleton] at hc
      subst hc
      exact fun e => nb (e ▸ ha)⟩
  · by_cases hi : i < M.length
    · rw [List.getElem?_append_left (by rw [m.len]; exact hi)] at h1
      rw [List.getElem?_append_left hi] at h2
      exact (m.at_ i a o' h1 h2).mono mo (upd_ne fun e => nb (e ▸ List.mem_of_getElem? h1))
    · have hl : i = M.length := by
        have := (List.getElem?_eq_some_iff.mp h2).1
        simp at this
        omega
      subst hl
      have e1 : (ι ++ [b])[M.length]? = some b := by rw [← m.len]; simp
      have e2 : (M ++ [o])[M.length]? = some o := by simp
      rw [e1] at h1
      rw [e2] at h2
      cases h1
      cases h2
      exact h
theorem RepM.upd_set {u : HO} {o' : MO} {w : HO} (m : RepM p ι H M) (hi : ι[i]? = some a) (hw : H a = some w) (hnt : ∀ xs, w ≠ .tup xs) (h : RepO p ι (upd H a u) a o') (hnf : ∀ o v, w ≠ .frz o v) :
    RepM p ι (upd H a u) (M.set i o') ∧ Mono ι H ι (upd H a u) := by
  have t : ∀ b xs, H b = some (.tup xs) → upd H a u b = some (.tup xs) := fun b xs e => by
    rw [upd_ne]
    · exact e
    · rintro rfl
      rw [hw] at e
      cases e
      exact hnt _ rfl
  have mo : Mono ι H ι (upd H a u) := .set (List.mem_of_getElem? hi) hw hnt hnf
  refine ⟨⟨by simp [m.len], m.nd, fun j b q h1 h2 => ?_⟩, mo⟩
  by_cases hj : j = i
  · subst hj
    rw [hi] at h1
    cases h1
    have hl : j < M.length := by rw [← m.len]; exact (List.getElem?_eq_some_iff.mp hi).1
    rw [List.getElem?_set_self hl] at h2
    cases h2
    exact h
  · rw [List.getElem?_set_ne (Ne.symm hj)] at h2
    have nb : b ≠ a := by
      rintro rfl
      obtain ⟨l1, e1⟩ := List.getElem?_eq_some_iff.mp h1
      obtain ⟨l2, e2⟩ := List.getElem?_eq_some_iff.mp hi
      exact hj ((List.getElem_inj m.nd).mp (e1.trans e2.symm))
    exact (m.at_ j b q h1 h2).mono mo (upd_ne nb)
end

/-- the slots -/
def RepE [DecidableEq Str] [DecidableEq Key] [DecidableEq String] [(α : Type) → GetElem? (List α) Nat α fun l i => i < l.length] [(α : Type) → Append (List α)] [(i j : Int) → Decidable (i < j)] [(i j : Int) → Decidable (i ≤ j)] (p : Pw) (ι : List Addr) (H : Hp) (σ : L2.St) (ρ : Env1) : Prop := σ.length = ρ.length ∧ ∀ (i : Nat) (d : D), ρ[i]? = some (some d) → ∃ v, σ[i]? = some (some v) ∧ Rep p ι H v d
theorem RepE.mono {p : Pw} {ι ι' : List Addr} {H H' : Hp} {σ : L2.St} {ρ : Env1} (h : RepE p ι H σ ρ) (m : Mono ι H ι' H') : RepE p ι' H' σ ρ :=
  ⟨h.1, fun i d e => by
    obtain ⟨v, e2, r⟩ := h.2 i d e
    exact ⟨v, e2, r.mono m⟩⟩
theorem RepE.set {p : Pw} {ι : List Addr} {H : Hp} {σ : L2.St} {ρ : Env1} {i : Nat} {v : V} {d : D} (h : RepE p ι H σ ρ) (r : Rep p ι H v d) : RepE p ι H (σ.set i (some v)) (ρ.set i (some d)) := by
  refine ⟨by simp [h.1], fun j e hj => ?_⟩
  by_cases hij : i = j
  · subst hij
    have hl : i < ρ.length := by
      have := (List.getElem?_eq_some_iff.mp hj).1
      simpa using this
    rw [List.getElem?_set_self hl] at hj
    cases hj
    exact ⟨v, List.getElem?_set_self (by rw [h.1]; exact hl), r⟩
  · rw [List.getElem?_set_ne hij] at hj
    rw [List.getElem?_set_ne hij]
    exact h.2 j e hj
end Ev
set_option Elab.async false
set_option linter.all false
set_option maxRecDepth 100000
set_option maxHeartbeats 4000000
/-! Readings by the denotation; operations. -/
namespace Ev
open PySem PySem.Spec PyProof.Rows L2

def R.bind [DecidableEq Str] [DecidableEq Key] [DecidableEq String] [(α : Type) → GetElem? (List α) Nat α fun l i => i < l.length] [(α : Type) → Append (List α)] [(i j : Int) → Decidable (i < j)] [(i j : Int) → Decidable (i ≤ j)] {α β : Type} (r : R α) (f : α → Store → R β) : R β := match r with
  | .ok a M => f a M
  | .ex C fs M => .ex C fs M
  | .no => .no

/-- an exception: its class, its own dict -/
def ExR [DecidableEq Str] [DecidableEq Key] [DecidableEq String] [(α : Type) → GetElem? (List α) Nat α fun l i => i < l.length] [(α : Type) → Append (List α)] [(i j : Int) → Decidable (i < j)] [(i j : Int) → Decidable (i ≤ j)] (p : Pw) (ι : List Addr) (H : Hp) (C : Str) (fs : Fs) (cls : Value) (d : Option Addr) : Prop :=
  cls = .ref (He.ga p.K C) ∧ ((d = none ∧ fs = []) ∨ ∃ dx vs, d = some dx ∧ H dx = some (.xd vs) ∧ RepK p ι H vs fs)

/-- what is wanted behind an end -/
def Post [DecidableEq Str] [DecidableEq Key] [DecidableEq String] [(α : Type) → GetElem? (List α) Nat α fun l i => i < l.length] [(α : Type) → Append (List α)] [(i j : Int) → Decidable (i < j)] [(i j : Int) → Decidable (i ≤ j)] {α β : Type} (p : Pw) (ι : List Addr) (H : Hp) (rel : List Addr → Hp → β → α → Prop) (Q : β → Hp → Prop) (W : XK) : R α → Prop
  | .ok a M => ∀ ι' H' b, Mono ι H ι' H' → RepM p ι' H' M → rel ι' H' b a → Q b H'
  | .ex C fs M => ∀ ι' H' cls d, Mono ι H ι' H' → RepM p ι' H' M → ExR p ι' H' C fs cls d → W cls d H'
  | .no => False
section
variable {α β γ δ : Type} {p : Pw} {ι ι' : List Addr} {H H' : Hp} {rel : List Addr → Hp → β → α → Prop} {rel2 : List Addr → Hp → δ → γ → Prop} {Q : β → Hp → Prop} {W : XK}
theorem Post.mono {r : R α} (h : Post p ι H rel Q W r) (m : Mono ι H ι' H') : Post p ι' H' rel Q W r := by
  cases r with
  | ok a M => exact fun ι2 H2 b m2 => h ι2 H2 b (m.trans m2)
  | ex C fs M => exact fun ι2 H2 c d m2 => h ι2 H2 c d (m.trans m2)
  | no => exact h
theorem Post.bind {Q2 : δ → Hp → Prop} {r : R α} {f : α → Store → R γ} (h : Post p ι H rel2 Q2 W (r.bind f)) :
    Post p ι H rel (fun b H1 => ∃ ι1 a M1, Mono ι H ι1 H1 ∧ RepM p ι1 H1 M1 ∧ rel ι1 H1 b a ∧ Post p ι1 H1 rel2 Q2 W (f a M1)) W r := by
  cases r with
  | ok a M => exact fun ι2 H2 b m rm rb => ⟨ι2, a, M, m, rm, rb, Post.mono (show Post p ι H rel2 Q2 W (f a M) from h) m⟩
  | ex C fs M => exact h
  | no => exact h
theorem Post.imp {Q' : β → Hp → Prop} {r : R α} (h : Post p ι H rel Q W r) (hq : ∀ b H, Q b H → Q' b H) : Post p ι H rel Q' W r := by
  cases r with
  | ok a M => exact fun ι2 H2 b m rm rb => hq _ _ (h ι2 H2 b m rm rb)
  | ex C fs M => exact h
  | no => exact h
theorem Post.okI {a : α} {M : Store} (h : ∀ ι' H' b, Mono ι H ι' H' → RepM p ι' H' M → rel ι' H' b a → Q b H') : Post p ι H rel Q W (.ok a M) := h
end

abbrev pw (X : Cx) : Pw := ⟨X.K, X.mg⟩
abbrev ED := Env1 → Store → R D
abbrev TD := Env1 → Store → R Bool
abbrev AD := Env1 → Store → R (List D)
/-- an expression's reading by its denotation -/
def rE [DecidableEq Str] [DecidableEq Key] [DecidableEq String] [(α : Type) → GetElem? (List α) Nat α fun l i => i < l.length] [(α : Type) → Append (List α)] [(i j : Int) → Decidable (i < j)] [(i j : Int) → Decidable (i ≤ j)] (X : Cx) (W : WX) (d : ED) : TE := fun σ H Q => ∃ ι ρ M, RepM (pw X) ι H M ∧ RepE (pw X) ι H σ ρ ∧ Post (pw X) ι H (Rep (pw X)) Q (WE W σ) (d ρ M)
def rT [DecidableEq Str] [DecidableEq Key] [DecidableEq String] [(α : Type) → GetElem? (List α) Nat α fun l i => i < l.length] [(α : Type) → Append (List α)] [(i j : Int) → Decidable (i < j)] [(i j : Int) → Decidable (i ≤ j)] (X : Cx) (W : WX) (d : TD) : TT := fun σ H Q => ∃ ι ρ M, RepM (pw X) ι H M ∧ RepE (pw X) ι H σ ρ ∧ Post (pw X) ι H (fun _ _ b c => b = c) Q (WE W σ) (d ρ M)
def rA [DecidableEq Str] [DecidableEq Key] [DecidableEq String] [(α : Type) → GetElem? (List α) Nat α fun l i => i < l.length] [(α : Type) → Append (List α)] [(i j : Int) → Decidable (i < j)] [(i j : Int) → Decidable (i ≤ j)] (X : Cx) (W : WX) (d : AD) : TA := fun σ H Q => ∃ ι ρ M, RepM (pw X) ι H M ∧ RepE (pw X) ι H σ ρ ∧ Post (pw X) ι H (RepL (pw X)) Q (WE W σ) (d ρ M)

section
variable {X : Cx} {W : WX} {a b e : Expr} {es : List Expr} {da db dc : ED} {pos : Pos} {pins : List (Addr × Obj)} {σ : L2.St} {H : Hp} {s : Shared} {ι : List Addr} {ρ : Env1} {M : Store}

theorem _root_.L2.PE.imp {t t' : TE} (h : PE X e t) (k : ∀ σ H Q, t' σ H Q → t σ H Q) : PE X e t' := ⟨fun pins s σ H Q I q => h.run pins s σ H Q I (k σ H Q q)⟩
theorem _root_.L2.PT.imp {t t' : TT} (h : PT X e t) (k : ∀ σ H Q, t' σ H Q → t σ H Q) : PT X e t' := ⟨fun pins s σ H Q I q => h.run pins s σ H Q I (k σ H Q q)⟩
theorem _root_.L2.PA.imp {t t' : TA} (h : PA X es t) (k : ∀ σ H Q, t' σ H Q → t σ H Q) : PA X es t' := ⟨fun ps pins s σ H Q I q => h.run ps pins s σ H Q I (k σ H Q q)⟩

/-! ### names, constants -/
def dVar [DecidableEq Str] [DecidableEq Key] [DecidableEq String] [(α : Type) → GetElem? (List α) Nat α fun l i => i < l.length] [(α : Type) → Append (List α)] [(i j : Int) → Decidable (i < j)] [(i j : Int) → Decidable (i ≤ j)] (i : Nat) : ED := fun ρ M => match ρ[i]? with
  | some (some d) => .ok d M
  | _ => .no
def dC [DecidableEq Str] [DecidableEq Key] [DecidableEq String] [(α : Type) → GetElem? (List α) Nat α fun l i => i < l.length] [(α : Type) → Append (List α)] [(i j : Int) → Decidable (i < j)] [(i j : Int) → Decidable (i ≤ j)] (d : D) : ED := fun _ M => .ok d M
theorem q_var {i : Nat} {x : Str} (h : PE X (.Name x pos) (tVar i)) : PE X (.Name x pos) (rE X W (dVar i)) := h.imp fun σ H Q ⟨ι, ρ, M, rm, re, q⟩ => by
  unfold dVar at q
  cases e : ρ[i]? with
  | none => rw [e] at q; exact q.elim
  | some o =>
    rw [e] at q
    cases o with
    | none => exact q.elim
    | some d =>
      obtain ⟨v, e2, r⟩ := re.2 i d e
      exact ⟨v, e2, q ι H v .refl rm r⟩
theorem q_C {e : Expr} {v : V} {d : D} (h : PE X e (tC v)) (r : ∀ ι H, Rep (pw X) ι H v d) : PE X e (rE X W (dC d)) := h.imp fun σ H Q ⟨ι, ρ, M, rm, re, q⟩ => q ι H v .refl rm (r ι H)

/-! ### two places -/
def binD [DecidableEq Str] [DecidableEq Key] [DecidableEq String] [(α : Type) → GetElem? (List α) Nat α fun l i => i < l.length] [(α : Type) → Append (List α)] [(i j : Int) → Decidable (i < j)] [(i j : Int) → Decidable (i ≤ j)] (f : D → D → Store → R D) (da db : ED) : ED := fun ρ M => (da ρ M).bind fun x M1 => (db ρ M1).bind fun y M2 => f x y M2
/-- an operation on values is this one on data -/
def OpS [DecidableEq Str] [DecidableEq Key] [DecidableEq String] [(α : Type) → GetElem? (List α) Nat α fun l i => i < l.length] [(α : Type) → Append (List α)] [(i j : Int) → Decidable (i < j)] [(i j : Int) → Decidable (i ≤ j)] (X : Cx) (g : Value → Value → Sem Value) (f : D → D → Store → R D) : Prop :=
  ∀ (pins : List (Addr × Obj)) (s : Shared) (σ : L2.St) (H : Hp) (x y : V) (v u : Value) (Q : VK) (ι : List Addr) (M : Store) (d e : D) (W : XK), Inv X pins σ H s → RelV x v → RelV y u → RepM (pw X) ι H M → Rep (pw X) ι H x d → Rep (pw X) ι H y e →
    Post (pw X) ι H (Rep (pw X)) Q W (f d e M) → wpAny (model X.prog X.w) X.A (g v u) (EP X pins σ Q) X.xe s
/-- what a pair of parts is, at the operation -/
def Two [DecidableEq Str] [DecidableEq Key] [DecidableEq String] [(α : Type) → GetElem? (List α) Nat α fun l i => i < l.length] [(α : Type) → Append (List α)] [(i j : Int) → Decidable (i < j)] [(i j : Int) → Decidable (i ≤ j)] (X : Cx) (f : D → D → Store → R D) (Q : VK) (W : XK) : V → V → Hp → Prop := fun x y H => ∃ ι M d e, RepM (pw X) ι H M ∧ Rep (pw X) ι H x d ∧ Rep (pw X) ι H y e ∧ Post (pw X) ι H (Rep (pw X)) Q W (f d e M)
theorem two_of {f : D → D → Store → R D} {Q : VK} (h : rE X W (binD f da db) σ H Q) : rE X W da σ H fun x H1 => rE X W db σ H1 fun y H2 => Two X f Q (WE W σ) x y H2 := by
  obtain ⟨ι, ρ, M, rm, re, q⟩ := h
  refine ⟨ι, ρ, M, rm, re, (Post.bind q).imp fun x H1 ⟨ι1, d, M1, m1, rm1, rx, q1⟩ => ?_⟩
  refine ⟨ι1, ρ, M1, rm1, re.mono m1, (Post.bind q1).imp fun y H2 ⟨ι2, e, M2, m2, rm2, ry, q2⟩ => ?_⟩
  exact ⟨ι2, M2, d, e, rm2, rx.mono m2, ry, q2⟩
theorem OpS.two {g : Value → Value → Sem Value} {f : D → D → Store → R D} (ho : OpS X g f) {v u : Value} {x y : V} {Q : VK} {W : XK} (I : Inv X pins σ H s) (rx : RelV x v) (ry : RelV y u) (q : Two X f Q W x y H) :
    wpAny (model X.prog X.w) X.A (g v u) (EP X pins σ Q) X.xe s := by
  obtain ⟨ι, M, d, e, rm, hx, hy, q⟩ := q
  exact ho pins s σ H x y v u Q ι M d e W I rx ry rm hx hy q
theorem q_bin {op : Operator} {f : D → D → Store → R D} (ho : OpS X (binaryOp op) f) (ha : PE X a (rE X W da)) (hb : PE X b (rE X W db)) : PE X (.BinOp a op b pos) (rE X W (binD f da db)) :=
  ⟨fun pins s σ H Q I h => wpAny_BinOp (binT ha hb I (two_of h) fun v u s2 x y H2 I2 rx ry q => ho.two I2 rx ry q)⟩
theorem q_cmp {op : CmpOp} {f : D → D → Store → R D} (ho : OpS X (compareOp op) f) (ha : PE X a (rE X W da)) (hb : PE X b (rE X W db)) (hm : behindInMarks op b = false) : PE X (.Compare a [op] [b] pos) (rE X W (binD f da db)) := by
  refine ⟨fun pins s σ H Q I h => ?_⟩
  exact wpAny_Compare1 (binT ha hb I (two_of h) fun v u s2 x y H2 I2 rx ry q => ho.two I2 rx ry q) hm

/-- an operation that is right by one of the layer's rules, case by case -/
theorem OpS.of {g : Value → Value → Sem Value} {f : D → D → Store → R D} (h : ∀ (H : Hp) (x y : V) (Q : VK) (ι : List Addr) (M : Store) (d e : D) (W : XK), RepM (pw X) ι H M → Rep (pw X) ι H x d → Rep (pw X) ι H y e → Post (pw X) ι H (Rep (pw X)) Q W (f d e M) →
    ∃ r, OpR X g r ∧ r x y H Q) : OpS X g f := fun pins s σ H x y v u Q ι M d e W I rx ry rm hx hy q => by
  obtain ⟨r, hr, hq⟩ := h H x y Q ι M d e W rm hx hy q
  exact hr pins s σ H x y v u Q I rx ry hq

/-- a list that the store holds -/
def lstAt [DecidableEq Str] [DecidableEq Key] [DecidableEq String] [(α : Type) → GetElem? (List α) Nat α fun l i => i < l.length] [(α : Type) → Append (List α)] [(i j : Int) → Decidable (i < j)] [(i j : Int) → Decidable (i ≤ j)] (M : Store) (i : Nat) : Option (List D) := match M[i]? with
  | some (.lst xs) => some xs
  | _ => none
/-- one that may be read -/
def lstRd [DecidableEq Str] [DecidableEq Key] [DecidableEq String] [(α : Type) → GetElem? (List α) Nat α fun l i => i < l.length] [(α : Type) → Append (List α)] [(i j : Int) → Decidable (i < j)] [(i j : Int) → Decidable (i ≤ j)] (M : Store) (i : Nat) : Option (List D) := match M[i]? with
  | some (.lst xs) => some xs
  | some (.ro xs) => some xs
  | _ => none
theorem lstAt_at {p : Pw} {i : Nat} {x : V} {ds : List D} (rm : RepM p ι H M) (r : Rep p ι H x (.ref i)) (e : lstAt M i = some ds) : ∃ a vs, x = .ref a ∧ ι[i]? = some a ∧ H a = some (.lst vs) ∧ RepL p ι H vs ds := by
  unfold lstAt at e
  cases q : M[i]? with
  | none => rw [q] at e; cases e
  | some o =>
    rw [q] at e
    cases o with
    | lst xs =>
      cases e
      cases r with
      | ref hi =>
        obtain ⟨vs, hv, rl⟩ := rm.at_ i _ _ hi q
        exact ⟨_, vs, rfl, hi, hv, rl⟩
    | _ => cases e
theorem lstRd_at {p : Pw} {i : Nat} {x : V} {ds : List D} (rm : RepM p ι H M) (r : Rep p ι H x (.ref i)) (e : lstRd M i = some ds) : ∃ a vs, x = .ref a ∧ (∀ K, SqL K H a vs) ∧ RepL p ι H vs ds := by
  unfold lstRd at e
  cases q : M[i]? with
  | none => rw [q] at e; cases e
  | some o =>
    rw [q] at e
    cases o with
    | lst xs =>
      cases e
      cases r with
      | ref hi =>
        obtain ⟨vs, hv, rl⟩ := rm.at_ i _ _ hi q
        exact ⟨_, vs, rfl, fun _ => .inl (.inl hv), rl⟩
    | ro xs =>
      cases e
      cases r with
      | ref hi =>
        obtain ⟨vs, o, hv, rl, _⟩ := rm.at_ i _ _ hi q
        exact ⟨_, vs, rfl, fun _ => .inl (.inr ⟨o, hv⟩), rl⟩
    | _ => cases e

/-! ### new objects -/
/-- a new tuple -/
def mkTup [DecidableEq Str] [DecidableEq Key] [DecidableEq String] [(α : Type) → GetElem? (List α) Nat α fun l i => i < l.length] [(α : Type) → Append (List α)] [(i j : Int) → Decidable (i < j)] [(i j : Int) → Decidable (i ≤ j)] (ds : List D) (M : Store) : R D := if ds.length ≤ sizeLine then .ok (.tup ds) M else .no
/-- a new list -/
def mkLst [DecidableEq Str] [DecidableEq Key] [DecidableEq String] [(α : Type) → GetElem? (List α) Nat α fun l i => i < l.length] [(α : Type) → Append (List α)] [(i j : Int) → Decidable (i < j)] [(i j : Int) → Decidable (i ≤ j)] (ds : List D) (M : Store) : R D := if ds.length ≤ sizeLine then .ok (.ref M.length) (M ++ [.lst ds]) else .no
theorem mkTup_post {p : Pw} {vs : List V} {ds : List D} {Q : VK} {W : XK} (rm : RepM p ι H M) (r : RepL p ι H vs ds) (q : Post p ι H (Rep p) Q W (mkTup ds M)) : vs.length ≤ sizeLine ∧ ∀ a, H a = none → Q (.ref a) (upd H a (.tup vs)) := by
  unfold mkTup at q
  split at q
  · rename_i hl
    refine ⟨by rw [r.length]; exact hl, fun a ha => ?_⟩
    obtain ⟨rm2, m2⟩ := rm.upd_new (u := .tup vs) ha
    exact q ι _ _ m2 rm2 (.tup upd_same (r.mono m2))
  · exact q.elim
theorem mkLst_post {p : Pw} {vs : List V} {ds : List D} {Q : VK} {W : XK} (rm : RepM p ι H M) (r : RepL p ι H vs ds) (q : Post p ι H (Rep p) Q W (mkLst ds M)) : vs.length ≤ sizeLine ∧ ∀ a, H a = none → Q (.ref a) (upd H a (.lst vs)) := by
  unfold mkLst at q
  split at q
  · rename_i hl
    refine ⟨by rw [r.length]; exact hl, fun a ha => ?_⟩
    have m0 : Mono ι H (ι ++ [a]) (upd H a (.lst vs)) := .new ha
    obtain ⟨rm2, m2, hi⟩ := rm.alloc (u := .lst vs) (o := .lst ds) ha ⟨vs, upd_same, r.mono m0⟩
    exact q _ _ _ m2 rm2 (.ref hi)
  · exact q.elim

/-! ### displays -/
def dNil [DecidableEq Str] [DecidableEq Key] [DecidableEq String] [(α : Type) → GetElem? (List α) Nat α fun l i => i < l.length] [(α : Type) → Append (List α)] [(i j : Int) → Decidable (i < j)] [(i j : Int) → Decidable (i ≤ j)] : AD := fun _ M => .ok [] M
def dCons [DecidableEq Str] [DecidableEq Key] [DecidableEq String] [(α : Type) → GetElem? (List α) Nat α fun l i => i < l.length] [(α : Type) → Append (List α)] [(i j : Int) → Decidable (i < j)] [(i j : Int) → Decidable (i ≤ j)] (da : ED) (dr : AD) : AD := fun ρ M => (da ρ M).bind fun x M1 => (dr ρ M1).bind fun xs M2 => .ok (x :: xs) M2
theorem q_nil : PA X [] (rA X W dNil) := pa_nil.imp fun σ H Q ⟨ι, ρ, M, rm, re, q⟩ => q ι H [] .refl rm .nil
theorem q_cons {dr : AD} (ha : PE X e (rE X W da)) (hr : PA X es (rA X W dr)) (hs : starEach (e :: es) X.env = (false, eval e X.env) :: starEach es X.env) : PA X (e :: es) (rA X W (dCons da dr)) :=
  (pa_cons ha hr hs).imp fun σ H Q ⟨ι, ρ, M, rm, re, q⟩ => by
    refine ⟨ι, ρ, M, rm, re, (Post.bind q).imp fun x H1 ⟨ι1, d, M1, m1, rm1, rx, q1⟩ => ?_⟩
    refine ⟨ι1, ρ, M1, rm1, re.mono m1, (Post.bind q1).imp fun ys H2 ⟨ι2, ds, M2, m2, rm2, ry, q2⟩ => ?_⟩
    exact q2 ι2 H2 _ .refl rm2 (.cons (rx.mono m2) ry)
def dTup [DecidableEq Str] [DecidableEq Key] [DecidableEq String] [(α : Type) → GetElem? (List α) Nat α fun l i => i < l.length] [(α : Type) → Append (List α)] [(i j : Int) → Decidable (i < j)] [(i j : Int) → Decidable (i ≤ j)] (dr : AD) : ED := fun ρ M => (dr ρ M).bind mkTup
def dLst [DecidableEq Str] [DecidableEq Key] [DecidableEq String] [(α : Type) → GetElem? (List α) Nat α fun l i => i < l.length] [(α : Type) → Append (List α)] [(i j : Int) → Decidable (i < j)] [(i j : Int) → Decidable (i ≤ j)] (dr : AD) : ED := fun ρ M => (dr ρ M).bind mkLst
theorem q_tup {dr : AD} {x1} (h : PA X es (rA X W dr)) : PE X (.Tuple es x1 pos) (rE X W (dTup dr)) := (pe_tup h).imp fun σ H Q ⟨ι, ρ, M, rm, re, q⟩ =>
  ⟨ι, ρ, M, rm, re, (Post.bind q).imp fun vs H1 ⟨ι1, ds, M1, m1, rm1, rx, q1⟩ => mkTup_post rm1 rx q1⟩
theorem q_lst {dr : AD} (h : PA X es (rA X W dr)) : PE X (.List es pos) (rE X W (dLst dr)) := (pe_lst h).imp fun σ H Q ⟨ι, ρ, M, rm, re, q⟩ =>
  ⟨ι, ρ, M, rm, re, (Post.bind q).imp fun vs H1 ⟨ι1, ds, M1, m1, rm1, rx, q1⟩ => mkLst_post rm1 rx q1⟩

/-! ### tests -/
def testD [DecidableEq Str] [DecidableEq Key] [DecidableEq String] [(α : Type) → GetElem? (List α) Nat α fun l i => i < l.length] [(α : Type) → Append (List α)] [(i j : Int) → Decidable (i < j)] [(i j : Int) → Decidable (i ≤ j)] (f : D → Store → R Bool) (da : ED) : TD := fun ρ M => (da ρ M).bind f
/-- by its truth -/
def truD [DecidableEq Str] [DecidableEq Key] [DecidableEq String] [(α : Type) → GetElem? (List α) Nat α fun l i => i < l.length] [(α : Type) → Append (List α)] [(i j : Int) → Decidable (i < j)] [(i j : Int) → Decidable (i ≤ j)] : D → Store → R Bool
  | .non, M => .ok false M
  | .bl b, M => .ok b M
  | .int i, M => .ok (i != 0) M
  | .str x, M => if x.length ≤ sizeLine then .ok ((x.length : Int) != 0) M else .no
  | .ref i, M => match lstRd M i with
    | some xs => .ok (!xs.isEmpty) M
    | none => .no
  | _, _ => .no
theorem RepL.isEmpty {p : Pw} {vs : List V} {ds : List D} (h : RepL p ι H vs ds) : vs.isEmpty = ds.isEmpty := by
  cases h <;> rfl
theorem q_truth (ha : PE X a (rE X W da)) (he : ∀ whole, isTrue a X.env whole = (do let v ← whole; standAt a.pos; holding [v] (truthy v))) : PT X a (rT X W (testD truD da)) :=
  (pt_truth ha he).imp fun σ H Q ⟨ι, ρ, M, rm, re, q⟩ => by
    refine ⟨ι, ρ, M, rm, re, (Post.bind q).imp fun x H1 ⟨ι1, d, M1, m1, rm1, rx, q1⟩ => ?_⟩
    have fin : ∀ {b : Bool}, Post (pw X) ι1 H1 (fun _ _ b c => b = c) Q (WE W σ) (.ok b M1) → Q b H1 := fun {b} h => h ι1 H1 b .refl rm1 rfl
    cases rx with
    | non => exact ⟨_, rfl, fin q1⟩
    | bl b => exact ⟨_, rfl, fin q1⟩
    | int i => exact ⟨_, rfl, fin q1⟩
    | str x =>
      show ∃ k, _ ∧ _
      have q2 : Post (pw X) ι1 H1 (fun _ _ b c => b = c) Q (WE W σ) (if x.length ≤ sizeLine then .ok ((x.length : Int) != 0) M1 else .no) := q1
      split at q2
      · rename_i hl
        exact ⟨_, ⟨hl, rfl⟩, fin q2⟩
      · exact q2.elim
    | @ref a0 i hi =>
      have q2 : Post (pw X) ι1 H1 (fun _ _ b c => b = c) Q (WE W σ) (match lstRd M1 i with | some xs => .ok (!xs.isEmpty) M1 | none => .no) := q1
      cases el : lstRd M1 i with
      | none => rw [el] at q2; exact q2.elim
      | some ds =>
        rw [el] at q2
        obtain ⟨a1, vs, e1, hq, rl⟩ := lstRd_at rm1 (.ref hi) el
        cases e1
        exact ⟨_, .inl ⟨vs, hq _, by rw [RepL.isEmpty rl]⟩, fin q2⟩
    | tup _ _ => exact q1.elim
    | kt _ _ => exact q1.elim
    | gl _ _ => exact q1.elim
    | ty _ => exact q1.elim
end
end Ev
set_option Elab.async false
set_option linter.all false
set_option maxRecDepth 100000
set_option maxHeartbeats 4000000
/-! Operations on data. -/
namespace Ev
open PySem PySem.Spec PyProof.Rows L2

/-! ### data as the library has it -/
def flatPy [DecidableEq Str] [DecidableEq Key] [DecidableEq String] [(α : Type) → GetElem? (List α) Nat α fun l i => i < l.length] [(α : Type) → Append (List α)] [(i j : Int) → Decidable (i < j)] [(i j : Int) → Decidable (i ≤ j)] : D → Option PyData
  | .non => some .none
  | .bl b => some (.bool b)
  | .int i => some (.int i)
  | .str x => if PyData.strOk x then some (.str x) else none
  | _ => none
def toPy [DecidableEq Str] [DecidableEq Key] [DecidableEq String] [(α : Type) → GetElem? (List α) Nat α fun l i => i < l.length] [(α : Type) → Append (List α)] [(i j : Int) → Decidable (i < j)] [(i j : Int) → Decidable (i ≤ j)] : Nat → Store → D → Option PyData
  | 0, _, d => flatPy d
  | n + 1, M, d => match d with
    | .tup xs => (match mapO (toPy n M) xs with
      | some ds => some (.tuple ds)
      | none => none)
    | .kt xs => (match mapO (toPy n M) xs with
      | some ds => some (.tuple ds)
      | none => none)
    | .ref i => (match lstRd M i with
      | some xs => (match mapO (toPy n M) xs with
        | some ds => some (.list ds)
        | none => none)
      | none => none)
    | d => flatPy d

section
variable {p : Pw} {ι : List Addr} {H : Hp} {M : Store}
theorem flatPy_rep {v : V} {d : D} {y : PyData} (r : Rep p ι H v d) (e : flatPy d = some y) : Dp p.K H v y ∧ y.canLay0 = true ∧ y.depth = 0 := by
  cases r with
  | non => cases e; exact ⟨.non, rfl, rfl⟩
  | bl b => cases e; exact ⟨.bl b, rfl, rfl⟩
  | int i => cases e; exact ⟨.int i, rfl, rfl⟩
  | str x =>
    have e2 : (if PyData.strOk x then some (PyData.str x) else none) = some y := e
    split at e2
    · rename_i h
      cases e2
      exact ⟨.str x, h, rfl⟩
    · cases e2
  | tup _ _ => cases e
  | kt _ _ => cases e
  | ref _ => cases e
  | gl _ _ => cases e
  | ty _ => cases e
theorem depthAll_le {n : Nat} : ∀ {ds : List PyData}, (∀ d ∈ ds, d.depth ≤ n) → PyData.depthAll ds ≤ n
  | [], _ => Nat.zero_le _
  | d :: ds, h => by
    show max d.depth (PyData.depthAll ds) ≤ n
    exact Nat.max_le.mpr ⟨h d List.mem_cons_self, depthAll_le fun x hx => h x (List.mem_cons_of_mem _ hx)⟩
theorem mapO_rep {f : D → Option PyData} {n : Nat} : ∀ {vs : List V} {ds : List D} {ys : List PyData}, (∀ v d y, Rep p ι H v d → f d = some y → Dp p.K H v y ∧ y.canLay0 = true ∧ y.depth ≤ n) → RepL p ι H vs ds → mapO f ds = some ys →
    DpAll p.K H vs ys ∧ PyData.canLayAll0 ys = true ∧ ∀ y ∈ ys, y.depth ≤ n
  | _, _, ys, h, .nil, e => by
    cases e
    exact ⟨.nil, rfl, fun y hy => by cases hy⟩
  | _, d :: ds, ys, h, .cons r l, e => by
    unfold mapO at e
    cases e1 : f d with
    | none => rw [e1] at e; cases e
    | some y =>
      rw [e1] at e
      cases e3 : mapO f ds with
      | none => rw [e3] at e; cases e
      | some zs =>
        rw [e3] at e
        cases e
        obtain ⟨a1, a2, a3⟩ := h _ _ _ r e1
        obtain ⟨b1, b2, b3⟩ := mapO_rep h l e3
        refine ⟨.cons a1 b1, ?_, fun z hz => ?_⟩
        · show (y.canLay0 && PyData.canLayAll0 zs) = true
          rw [a2, b2] <;> rfl
        · rcases List.mem_cons.mp hz with rfl | hz
          · exact a3
          · exact b3 z hz
theorem toPy_rep (rm : RepM p ι H M) : ∀ {n : Nat} {v : V} {d : D} {y : PyData}, Rep p ι H v d → toPy n M d = some y → Dp p.K H v y ∧ y.canLay0 = true ∧ y.depth ≤ n
  | 0, v, d, y, r, e => by
    obtain ⟨a, b, c⟩ := flatPy_rep r e
    exact ⟨a, b, by omega⟩
  | n + 1, v, d, y, r, e => by
    have flat : flatPy d = some y → Dp p.K H v y ∧ y.canLay0 = true ∧ y.depth ≤ n + 1 := fun e => by
      obtain ⟨a, b, c⟩ := flatPy_rep r e
      exact ⟨a, b, by omega⟩
    have ih := fun v d y (r : Rep p ι H v d) (e : toPy n M d = some y) => toPy_rep rm r e
    cases r with
    | non => exact flat e
    | bl b => exact flat e
    | int i => exact flat e
    | str x => exact flat e
    | gl _ _ => exact flat e
    | ty _ => exact flat e
    | @tup a xs ds ht hl =>
      have e2 : (match mapO (toPy n M) ds with | some ds => some (PyData.tuple ds) | none => none) = some y := e
      cases e3 : mapO (toPy n M) ds with
      | none => rw [e3] at e2; cases e2
      | some ys =>
        rw [e3] at e2
        cases e2
        obtain ⟨b1, b2, b3⟩ := mapO_rep ih hl e3
        refine ⟨.tup (SqT.of ht) b1, b2, ?_⟩
        show PyData.depthAll ys + 1 ≤ n + 1
        exact Nat.succ_le_succ (depthAll_le b3)
    | @kt a xs ds ht hl =>
      have e2 : (match mapO (toPy n M) ds with | some ds => some (PyData.tuple ds) | none => none) = some y := e
      cases e3 : mapO (toPy n M) ds with
      | none => rw [e3] at e2; cases e2
      | some ys =>
        rw [e3] at e2
        cases e2
        obtain ⟨b1, b2, b3⟩ := mapO_rep ih hl e3
        refine ⟨.tup ht.sq b1, b2, ?_⟩
        show PyData.depthAll ys + 1 ≤ n + 1
        exact Nat.succ_le_succ (depthAll_le b3)
    | @ref a i hi =>
      have e2 : (match lstRd M i with | some xs => (match mapO (toPy n M) xs with | some ds => some (PyData.list ds) | none => none) | none => none) = some y := e
      cases e4 : lstRd M i with
      | none => rw [e4] at e2; cases e2
      | some xs =>
        rw [e4] at e2
        have e5 : (match mapO (toPy n M) xs with | some ds => some (PyData.list ds) | none => none) = some y := e2
        obtain ⟨a1, vs, e1, hq, hl⟩ := lstRd_at rm (.ref hi) e4
        cases e1
        cases e3 : mapO (toPy n M) xs with
        | none => rw [e3] at e5; cases e5
        | some ys =>
          rw [e3] at e5
          cases e5
          obtain ⟨b1, b2, b3⟩ := mapO_rep ih hl e3
          refine ⟨.lst (hq _) b1, b2, ?_⟩
          show PyData.depthAll ys + 1 ≤ n + 1
          exact Nat.succ_le_succ (depthAll_le b3)
theorem toPy_shaped {n : Nat} {v : V} {d : D} {y : PyData} (hn : n ≤ 64) (rm : RepM p ι H M) (r : Rep p ι H v d) (e : toPy n M d = some y) : Dp p.K H v y ∧ SeqAt.shaped y = true := by
  obtain ⟨a, b, c⟩ := toPy_rep rm r e
  refine ⟨a, ?_⟩
  show (y.canLay0 && decide (y.depth ≤ 64)) = true
  rw [b, decide_eq_true (show y.depth ≤ 64 by omega)] <;> rfl
end

def ret [DecidableEq Str] [DecidableEq Key] [DecidableEq String] [(α : Type) → GetElem? (List α) Nat α fun l i => i < l.length] [(α : Type) → Append (List α)] [(i j : Int) → Decidable (i < j)] [(i j : Int) → Decidable (i ≤ j)] (d : D) (M : Store) : R D := .ok d M
theorem Post.ret {p : Pw} {ι : List Addr} {H : Hp} {M : Store} {d : D} {v : V} {Q : VK} {W : XK} (h : Post p ι H (Rep p) Q W (ret d M)) (rm : RepM p ι H M) (r : Rep p ι H v d) : Q v H := h ι H v .refl rm r

/-! ### == -/
def bothPy [DecidableEq Str] [DecidableEq Key] [DecidableEq String] [(α : Type) → GetElem? (List α) Nat α fun l i => i < l.length] [(α : Type) → Append (List α)] [(i j : Int) → Decidable (i < j)] [(i j : Int) → Decidable (i ≤ j)] (M : Store) (d e : D) : Option Bool := match toPy 30 M d, toPy 30 M e with
  | some x, some y => some (PyData.eqv x y)
  | _, _ => none
def eqOf [DecidableEq Str] [DecidableEq Key] [DecidableEq String] [(α : Type) → GetElem? (List α) Nat α fun l i => i < l.length] [(α : Type) → Append (List α)] [(i j : Int) → Decidable (i < j)] [(i j : Int) → Decidable (i ≤ j)] (M : Store) : D → D → Option Bool
  | .str x, .str y => some (decide (x = y))
  | .int x, .int y => some (decide (x = y))
  | .bl x, .bl y => some (decide (x = y))
  | .ref i, .ref j => match lstRd M i, lstRd M j with
    | some xs, some ys => if xs.length = ys.length then bothPy M (.ref i) (.ref j) else some false
    | _, _ => none
  | d, e => bothPy M d e
def eqD [DecidableEq Str] [DecidableEq Key] [DecidableEq String] [(α : Type) → GetElem? (List α) Nat α fun l i => i < l.length] [(α : Type) → Append (List α)] [(i j : Int) → Decidable (i < j)] [(i j : Int) → Decidable (i ≤ j)] (d e : D) (M : Store) : R D := match eqOf M d e with
  | some b => .ok (.bl b) M
  | none => .no
def neD [DecidableEq Str] [DecidableEq Key] [DecidableEq String] [(α : Type) → GetElem? (List α) Nat α fun l i => i < l.length] [(α : Type) → Append (List α)] [(i j : Int) → Decidable (i < j)] [(i j : Int) → Decidable (i ≤ j)] (d e : D) (M : Store) : R D := match eqOf M d e with
  | some b => .ok (.bl (!b)) M
  | none => .no
section
variable {X : Cx}
theorem bothPy_ok {p : Pw} {ι : List Addr} {H : Hp} {M : Store} {x y : V} {d e : D} {b : Bool} (rm : RepM p ι H M) (hx : Rep p ι H x d) (hy : Rep p ι H y e) (q : bothPy M d e = some b) :
    ∃ d' e', Dp p.K H x d' ∧ Dp p.K H y e' ∧ SeqAt.shaped d' = true ∧ SeqAt.shaped e' = true ∧ PyData.eqv d' e' = b := by
  unfold bothPy at q
  split at q
  · rename_i d' e' h1 h2
    cases q
    obtain ⟨a1, a2⟩ := toPy_shaped (by decide) rm hx h1
    obtain ⟨b1, b2⟩ := toPy_shaped (by decide) rm hy h2
    exact ⟨d', e', a1, b1, a2, b2, rfl⟩
  · cases q
end

section
variable {X : Cx}
/-- two lists of unlike lengths -/
theorem len_lists {p : Pw} {ι : List Addr} {H : Hp} {M : Store} {x y : V} {i j : Nat} {xs ys : List D} (rm : RepM p ι H M) (hx : Rep p ι H x (.ref i)) (hy : Rep p ι H y (.ref j)) (e1 : lstRd M i = some xs) (e2 : lstRd M j = some ys) (hl : ¬ xs.length = ys.length) :
    ∃ a b vs ws, x = .ref a ∧ y = .ref b ∧ (∀ K, SqL K H a vs) ∧ (∀ K, SqL K H b ws) ∧ vs.length ≠ ws.length := by
  obtain ⟨a, vs, rfl, h1, l1⟩ := lstRd_at rm hx e1
  obtain ⟨b, ws, rfl, h2, l2⟩ := lstRd_at rm hy e2
  exact ⟨a, b, vs, ws, rfl, rfl, h1, h2, by rw [l1.length, l2.length]; exact hl⟩
theorem size_ne {vs ws : List V} {its its2 : List Value} (r : Vals vs its) (r2 : Vals ws its2) (h : vs.length ≠ ws.length) : (its.toArray.size != its2.toArray.size) = true := by
  simp only [List.size_toArray, bne_iff_ne, ne_eq]
  rw [← r.length, ← r2.length]
  exact h
theorem op_eqLen (hu : X.A.units < cLine) : OpR X (compareOp .Eq) (fun x y H Q => ∃ a b vs ws, x = .ref a ∧ y = .ref b ∧ SqL X.K H a vs ∧ SqL X.K H b ws ∧ vs.length ≠ ws.length ∧ Q (.bl false) H) := by
  intro pins s σ H x y v u Q I rx ry h
  obtain ⟨a, b, vs, ws, rfl, rfl, h1, h2, hl, q⟩ := h
  cases rx
  cases ry
  obtain ⟨its, r, p1, _⟩ := I.list h1
  obtain ⟨its2, r2, p2, _⟩ := I.list h2
  exact SeqAt.eq_list_lengthsAt p1.isList p2.isList (size_ne r r2 hl) hu ⟨.bl false, H, I, rfl, q⟩
theorem op_neLen (hu : X.A.units < cLine) : OpR X (compareOp .NotEq) (fun x y H Q => ∃ a b vs ws, x = .ref a ∧ y = .ref b ∧ SqL X.K H a vs ∧ SqL X.K H b ws ∧ vs.length ≠ ws.length ∧ Q (.bl true) H) := by
  intro pins s σ H x y v u Q I rx ry h
  obtain ⟨a, b, vs, ws, rfl, rfl, h1, h2, hl, q⟩ := h
  cases rx
  cases ry
  obtain ⟨its, r, p1, _⟩ := I.list h1
  obtain ⟨its2, r2, p2, _⟩ := I.list h2
  exact SeqAt.RcNeAt.lists_lengths p1.isList p2.isList (size_ne r r2 hl) hu _ _ _ _ ⟨.bl true, H, I, rfl, q⟩
theorem dec_V {x y : D} {v w : V} {i j : Int} : decide (V.int i = V.int j) = decide (i = j) := by simp
/-- == and != -/
theorem eqOf_ok (hu : X.A.units + 64 < cLine) {ι : List Addr} {H : Hp} {M : Store} {x y : V} {d e : D} {b : Bool} (rm : RepM (pw X) ι H M) (hx : Rep (pw X) ι H x d) (hy : Rep (pw X) ι H y e) (q : eqOf M d e = some b) :
    (∃ r : R2, OpR X (compareOp .Eq) r ∧ ∀ Q : VK, Q (.bl b) H → r x y H Q) ∧ (∃ r : R2, OpR X (compareOp .NotEq) r ∧ ∀ Q : VK, Q (.bl (!b)) H → r x y H Q) := by
  have gen : bothPy M d e = some b → (∃ r : R2, OpR X (compareOp .Eq) r ∧ ∀ Q : VK, Q (.bl b) H → r x y H Q) ∧ (∃ r : R2, OpR X (compareOp .NotEq) r ∧ ∀ Q : VK, Q (.bl (!b)) H → r x y H Q) := fun q => by
    obtain ⟨d', e', h1, h2, h3, h4, h5⟩ := bothPy_ok rm hx hy q
    exact ⟨⟨_, op_eqD hu, fun Q hq => ⟨d', e', h1, h2, h3, h4, by rw [h5]; exact hq⟩⟩, ⟨_, op_neD hu, fun Q hq => ⟨d', e', h1, h2, h3, h4, by rw [h5]; exact hq⟩⟩⟩
  cases hx with
  | str x =>
    cases hy with
    | str y =>
      have e0 : decide (x = y) = b := Option.some.inj q
      have e1 : decide (V.str x = V.str y) = decide (x = y) := by simp
      exact ⟨⟨_, op_eq, fun Q hq => ⟨rfl, by rw [e1, e0]; exact hq⟩⟩, ⟨_, op_ne, fun Q hq => ⟨rfl, by rw [e1, e0]; exact hq⟩⟩⟩
    | _ => exact gen q
  | int x =>
    cases hy with
    | int y =>
      have e0 : decide (x = y) = b := Option.some.inj q
      have e1 : decide (V.int x = V.int y) = decide (x = y) := by simp
      exact ⟨⟨_, op_eq, fun Q hq => ⟨rfl, by rw [e1, e0]; exact hq⟩⟩, ⟨_, op_ne, fun Q hq => ⟨rfl, by rw [e1, e0]; exact hq⟩⟩⟩
    | _ => exact gen q
  | bl x =>
    cases hy with
    | bl y =>
      have e0 : decide (x = y) = b := Option.some.inj q
      have e1 : decide (V.bl x = V.bl y) = decide (x = y) := by simp
      exact ⟨⟨_, op_eq, fun Q hq => ⟨rfl, by rw [e1, e0]; exact hq⟩⟩, ⟨_, op_ne, fun Q hq => ⟨rfl, by rw [e1, e0]; exact hq⟩⟩⟩
    | _ => exact gen q
  | @ref a i hi =>
    cases hy with
    | @ref a2 j hj =>
      have q2 : (match lstRd M i, lstRd M j with | some xs, some ys => if xs.length = ys.length then bothPy M (.ref i) (.ref j) else some false | _, _ => none) = some b := q
      split at q2
      · rename_i xs ys e1 e2
        split at q2
        · exact gen q2
        · rename_i hl
          cases q2
          obtain ⟨a', b', vs, ws, h1, h2, h3, h4, h5⟩ := len_lists rm (.ref hi) (.ref hj) e1 e2 hl
          exact ⟨⟨_, op_eqLen (by omega), fun Q hq => ⟨a', b', vs, ws, h1, h2, h3 _, h4 _, h5, hq⟩⟩, ⟨_, op_neLen (by omega), fun Q hq => ⟨a', b', vs, ws, h1, h2, h3 _, h4 _, h5, hq⟩⟩⟩
      · cases q2
    | _ => exact gen q
  | _ => cases hy <;> exact gen q
theorem o_eq (hu : X.A.units + 64 < cLine) : OpS X (compareOp .Eq) eqD := .of fun H x y Q ι M d e W rm hx hy q => by
  unfold eqD at q
  cases h : eqOf M d e with
  | none => rw [h] at q; exact q.elim
  | some b =>
    rw [h] at q
    obtain ⟨⟨r, h1, h2⟩, _⟩ := eqOf_ok hu rm hx hy h
    exact ⟨r, h1, h2 Q (Post.ret q rm (.bl b))⟩
theorem o_ne (hu : X.A.units + 64 < cLine) : OpS X (compareOp .NotEq) neD := .of fun H x y Q ι M d e W rm hx hy q => by
  unfold neD at q
  cases h : eqOf M d e with
  | none => rw [h] at q; exact q.elim
  | some b =>
    rw [h] at q
    obtain ⟨_, ⟨r, h1, h2⟩⟩ := eqOf_ok hu rm hx hy h
    exact ⟨r, h1, h2 Q (Post.ret q rm (.bl _))⟩

/-! ### numbers, texts, tuples, lists: + - * // % ** -/
def addD [DecidableEq Str] [DecidableEq Key] [DecidableEq String] [(α : Type) → GetElem? (List α) Nat α fun l i => i < l.length] [(α : Type) → Append (List α)] [(i j : Int) → Decidable (i < j)] [(i j : Int) → Decidable (i ≤ j)] (d e : D) (M : Store) : R D := match d, e with
  | .int i, .int j => ret (.int (i + j)) M
  | .str i, .str j => if i.length + j.length ≤ sizeLine then ret (.str (i ++ j)) M else .no
  | .tup xs, .tup ys => if xs.length + ys.length ≤ sizeLine then ret (.tup (xs ++ ys)) M else .no
  | .ref i, .ref j => (match lstAt M i, lstAt M j with
    | some xs, some ys => mkLst (xs ++ ys) M
    | _, _ => .no)
  | _, _ => .no
def subD [DecidableEq Str] [DecidableEq Key] [DecidableEq String] [(α : Type) → GetElem? (List α) Nat α fun l i => i < l.length] [(α : Type) → Append (List α)] [(i j : Int) → Decidable (i < j)] [(i j : Int) → Decidable (i ≤ j)] (d e : D) (M : Store) : R D := match d, e with
  | .int i, .int j => ret (.int (i - j)) M
  | _, _ => .no
def mulD [DecidableEq Str] [DecidableEq Key] [DecidableEq String] [(α : Type) → GetElem? (List α) Nat α fun l i => i < l.length] [(α : Type) → Append (List α)] [(i j : Int) → Decidable (i < j)] [(i j : Int) → Decidable (i ≤ j)] (d e : D) (M : Store) : R D := match d, e with
  | .int i, .int j => if (-(2 ^ 64) < j ∧ j < 2 ^ 64) ∨ (-(2 ^ 64) < i ∧ i < 2 ^ 64) then ret (.int (i * j)) M else .no
  | .ref i, .int k => (match lstAt M i with
    | some xs => if 0 ≤ k ∧ k < 1000 ∧ xs.length * k.toNat ≤ sizeLine then mkLst (List.replicate k.toNat xs).flatten M else .no
    | none => .no)
  | .tup xs, .int k => if xs.length ≤ 1000 ∧ xs.isEmpty = false ∧ 2 ≤ k ∧ k ≤ 1000 then ret (.tup (List.replicate k.toNat xs).flatten) M else .no
  | _, _ => .no
def fdivD [DecidableEq Str] [DecidableEq Key] [DecidableEq String] [(α : Type) → GetElem? (List α) Nat α fun l i => i < l.length] [(α : Type) → Append (List α)] [(i j : Int) → Decidable (i < j)] [(i j : Int) → Decidable (i ≤ j)] (d e : D) (M : Store) : R D := match d, e with
  | .int i, .int j => if 0 < j ∧ j < 1073741824 then ret (.int (i / j)) M else .no
  | _, _ => .no
def modD [DecidableEq Str] [DecidableEq Key] [DecidableEq String] [(α : Type) → GetElem? (List α) Nat α fun l i => i < l.length] [(α : Type) → Append (List α)] [(i j : Int) → Decidable (i < j)] [(i j : Int) → Decidable (i ≤ j)] (d e : D) (M : Store) : R D := match d, e with
  | .int i, .int j => if 0 < j then ret (.int (i % j)) M else .no
  | _, _ => .no
def powD [DecidableEq Str] [DecidableEq Key] [DecidableEq String] [(α : Type) → GetElem? (List α) Nat α fun l i => i < l.length] [(α : Type) → Append (List α)] [(i j : Int) → Decidable (i < j)] [(i j : Int) → Decidable (i ≤ j)] (d e : D) (M : Store) : R D := match d, e with
  | .int i, .int j => if 0 ≤ j ∧ j ≤ 1000 ∧ i.natAbs < 2 ^ 64 then ret (.int (i ^ j.toNat)) M else .no
  | _, _ => .no
theorem o_add : OpS X (binaryOp .Add) addD := .of fun H x y Q ι M d e W rm hx hy q => by
  unfold addD at q
  split at q
  · cases hx; cases hy
    exact ⟨_, op_add, _, _, rfl, rfl, Post.ret q rm (.int _)⟩
  · cases hx; cases hy
    split at q
    · rename_i h
      exact ⟨_, op_add_str, _, _, rfl, rfl, h, Post.ret q rm (.str _)⟩
    · exact q.elim
  · cases hx with
    | @tup a vs _ h1 l1 =>
    cases hy with
    | @tup b ws _ h2 l2 =>
    split at q
    · rename_i h
      refine ⟨_, op_catA, a, b, vs, ws, rfl, rfl, SqT.of h1, SqT.of h2, by rw [l1.length, l2.length]; exact h, fun e0 => ?_, fun e0 e1 => ?_, fun e0 e1 p hp => ?_⟩
      · subst e0
        cases l1
        exact Post.ret q rm (.tup h2 l2)
      · subst e1
        cases l2
        rw [List.append_nil] at q
        exact Post.ret q rm (.tup h1 l1)
      · obtain ⟨rm2, m2⟩ := rm.upd_new (u := .tup (vs ++ ws)) hp
        exact q ι _ _ m2 rm2 (.tup upd_same ((l1.append l2).mono m2))
    · exact q.elim
  · rename_i i j
    cases e1 : lstAt M i with
    | none => rw [e1] at q; exact q.elim
    | some xs =>
      cases e2 : lstAt M j with
      | none => rw [e1, e2] at q; exact q.elim
      | some ys =>
        rw [e1, e2] at q
        obtain ⟨a, vs, rfl, _, h1, l1⟩ := lstAt_at rm hx e1
        obtain ⟨b, ws, rfl, _, h2, l2⟩ := lstAt_at rm hy e2
        obtain ⟨hl, k⟩ := mkLst_post rm (l1.append l2) q
        exact ⟨_, op_cat, a, b, vs, ws, rfl, rfl, h1, h2, by rw [← List.length_append]; exact hl, k⟩
  · exact q.elim
theorem o_sub : OpS X (binaryOp .Sub) subD := .of fun H x y Q ι M d e W rm hx hy q => by
  unfold subD at q
  split at q
  · cases hx; cases hy
    exact ⟨_, op_sub, _, _, rfl, rfl, Post.ret q rm (.int _)⟩
  · exact q.elim
theorem RepL.rep {p : Pw} {ι : List Addr} {H : Hp} {vs : List V} {ds : List D} (l : RepL p ι H vs ds) : ∀ n : Nat, RepL p ι H (List.replicate n vs).flatten (List.replicate n ds).flatten
  | 0 => .nil
  | n + 1 => by
    rw [List.replicate_succ, List.replicate_succ, List.flatten_cons, List.flatten_cons]
    exact l.append (RepL.rep l n)
theorem o_mul : OpS X (binaryOp .Mult) mulD := .of fun H x y Q ι M d e W rm hx hy q => by
  unfold mulD at q
  split at q
  · cases hx; cases hy
    split at q
    · rename_i h
      exact ⟨_, op_mul, _, _, rfl, rfl, h.symm, Post.ret q rm (.int _)⟩
    · exact q.elim
  · rename_i i k
    cases e1 : lstAt M i with
    | none => rw [e1] at q; exact q.elim
    | some xs =>
      rw [e1] at q
      obtain ⟨a, vs, rfl, _, h1, l1⟩ := lstAt_at rm hx e1
      cases hy
      dsimp only at q
      split at q
      · rename_i h
        obtain ⟨ha, hb, hc⟩ := h
        obtain ⟨hl, kk⟩ := mkLst_post rm (l1.rep k.toNat) q
        exact ⟨_, op_rep, a, k, vs, rfl, rfl, h1, by omega, by omega, by rw [l1.length]; exact hc, kk⟩
      · exact q.elim
  · cases hx with
    | @tup a vs xs h1 l1 =>
    cases hy
    rename_i k
    split at q
    · rename_i h
      obtain ⟨ha, hb, hc, hd⟩ := h
      refine ⟨_, op_repT, a, k, vs, rfl, rfl, SqT.of h1, fun e0 => ?_, hc, hd, by rw [l1.length]; exact ha, fun p hp => ?_⟩
      · subst e0
        cases l1
        cases hb
      · obtain ⟨rm2, m2⟩ := rm.upd_new (u := .tup (List.replicate k.toNat vs).flatten) hp
        exact q ι _ _ m2 rm2 (.tup upd_same ((l1.rep k.toNat).mono m2))
    · exact q.elim
  · exact q.elim
theorem o_fdiv : OpS X (binaryOp .FloorDiv) fdivD := .of fun H x y Q ι M d e W rm hx hy q => by
  unfold fdivD at q
  split at q
  · cases hx; cases hy
    split at q
    · rename_i h
      exact ⟨_, op_fdiv, _, _, rfl, rfl, h, Post.ret q rm (.int _)⟩
    · exact q.elim
  · exact q.elim
theorem o_mod : OpS X (binaryOp .Mod) modD := .of fun H x y Q ι M d e W rm hx hy q => by
  unfold modD at q
  split at q
  · cases hx; cases hy
    split at q
    · rename_i h
      exact ⟨_, op_mod, _, _, rfl, rfl, h, Post.ret q rm (.int _)⟩
    · exact q.elim
  · exact q.elim
theorem o_pow : OpS X (binaryOp .Pow) powD := .of fun H x y Q ι M d e W rm hx hy q => by
  unfold powD at q
  split at q
  · cases hx; cases hy
    split at q
    · rename_i h
      exact ⟨_, op_pow, _, _, rfl, rfl, ⟨h.1, by omega, h.2.2⟩, Post.ret q rm (.int _)⟩
    · exact q.elim
  · exact q.elim

/-! ### orders -/
def cmpI [DecidableEq Str] [DecidableEq Key] [DecidableEq String] [(α : Type) → GetElem? (List α) Nat α fun l i => i < l.length] [(α : Type) → Append (List α)] [(i j : Int) → Decidable (i < j)] [(i j : Int) → Decidable (i ≤ j)] (f : Int → Int → Bool) (d e : D) (M : Store) : R D := match d, e with
  | .int i, .int j => ret (.bl (f i j)) M
  | _, _ => .no
def ltD [DecidableEq Str] [DecidableEq Key] [DecidableEq String] [(α : Type) → GetElem? (List α) Nat α fun l i => i < l.length] [(α : Type) → Append (List α)] [(i j : Int) → Decidable (i < j)] [(i j : Int) → Decidable (i ≤ j)] := cmpI fun i j => decide (i < j)
def leD [DecidableEq Str] [DecidableEq Key] [DecidableEq String] [(α : Type) → GetElem? (List α) Nat α fun l i => i < l.length] [(α : Type) → Append (List α)] [(i j : Int) → Decidable (i < j)] [(i j : Int) → Decidable (i ≤ j)] := cmpI fun i j => decide (i ≤ j)
def gtD [DecidableEq Str] [DecidableEq Key] [DecidableEq String] [(α : Type) → GetElem? (List α) Nat α fun l i => i < l.length] [(α : Type) → Append (List α)] [(i j : Int) → Decidable (i < j)] [(i j : Int) → Decidable (i ≤ j)] := cmpI fun i j => decide (j < i)
def geD [DecidableEq Str] [DecidableEq Key] [DecidableEq String] [(α : Type) → GetElem? (List α) Nat α fun l i => i < l.length] [(α : Type) → Append (List α)] [(i j : Int) → Decidable (i < j)] [(i j : Int) → Decidable (i ≤ j)] := cmpI fun i j => decide (j ≤ i)
theorem o_cmpI {op : CmpOp} {f : Int → Int → Bool} (h : OpR X (compareOp op) (rI0 fun i j => .bl (f i j))) : OpS X (compareOp op) (cmpI f) := .of fun H x y Q ι M d e W rm hx hy q => by
  unfold cmpI at q
  split at q
  · cases hx; cases hy
    exact ⟨_, h, _, _, rfl, rfl, Post.ret q rm (.bl _)⟩
  · exact q.elim
theorem o_lt : OpS X (compareOp .Lt) ltD := o_cmpI op_lt
theorem o_le : OpS X (compareOp .LtE) leD := o_cmpI op_le
theorem o_gt : OpS X (compareOp .Gt) gtD := o_cmpI op_gt
theorem o_ge : OpS X (compareOp .GtE) geD := o_cmpI op_ge

/-! ### is None -/
def isNone [DecidableEq Str] [DecidableEq Key] [DecidableEq String] [(α : Type) → GetElem? (List α) Nat α fun l i => i < l.length] [(α : Type) → Append (List α)] [(i j : Int) → Decidable (i < j)] [(i j : Int) → Decidable (i ≤ j)] : D → Bool
  | .non => true
  | _ => false
/-- what may be asked for being None: no name of the module (it may be None itself) -/
def mayNone [DecidableEq Str] [DecidableEq Key] [DecidableEq String] [(α : Type) → GetElem? (List α) Nat α fun l i => i < l.length] [(α : Type) → Append (List α)] [(i j : Int) → Decidable (i < j)] [(i j : Int) → Decidable (i ≤ j)] : D → Bool
  | .gl _ => false
  | _ => true
def isD [DecidableEq Str] [DecidableEq Key] [DecidableEq String] [(α : Type) → GetElem? (List α) Nat α fun l i => i < l.length] [(α : Type) → Append (List α)] [(i j : Int) → Decidable (i < j)] [(i j : Int) → Decidable (i ≤ j)] (d e : D) (M : Store) : R D := match e with
  | .non => if mayNone d = true then ret (.bl (isNone d)) M else .no
  | _ => .no
def isNotD [DecidableEq Str] [DecidableEq Key] [DecidableEq String] [(α : Type) → GetElem? (List α) Nat α fun l i => i < l.length] [(α : Type) → Append (List α)] [(i j : Int) → Decidable (i < j)] [(i j : Int) → Decidable (i ≤ j)] (d e : D) (M : Store) : R D := match e with
  | .non => if mayNone d = true then ret (.bl (!isNone d)) M else .no
  | _ => .no
theorem dec_none {p : Pw} {ι : List Addr} {H : Hp} {x : V} {d : D} (h : mayNone d = true) (r : Rep p ι H x d) : decide (x = V.non) = isNone d := by
  cases r <;> first | rfl | (simp [isNone]; done) | (cases h)
theorem o_is : OpS X (compareOp .Is) isD := .of fun H x y Q ι M d e W rm hx hy q => by
  unfold isD at q
  split at q
  · cases hy
    split at q
    · rename_i h
      exact ⟨_, op_isN, rfl, by rw [dec_none h hx]; exact Post.ret q rm (.bl _)⟩
    · exact q.elim
  · exact q.elim
theorem o_isNot : OpS X (compareOp .IsNot) isNotD := .of fun H x y Q ι M d e W rm hx hy q => by
  unfold isNotD at q
  split at q
  · cases hy
    split at q
    · rename_i h
      exact ⟨_, op_notN, rfl, by rw [dec_none h hx]; exact Post.ret q rm (.bl _)⟩
    · exact q.elim
  · exact q.elim
end
end Ev
set_option Elab.async false
set_option linter.all false
set_option maxRecDepth 100000
set_option maxHeartbeats 4000000
/-! Logic, comparisons in a row, subscripts, slices, fields, texts of parts. -/
namespace Ev
open PySem PySem.Spec PyProof.Rows L2
section
variable {X : Cx} {W : WX} {a b c e : Expr} {es rest : List Expr} {da db dc : ED} {ta tb : TD} {pos : Pos} {pins : List (Addr × Obj)} {σ : L2.St} {H : Hp} {s : Shared} {ι : List Addr} {ρ : Env1} {M : Store}

/-! ### truth -/
theorem tru_rep {p : Pw} {x : V} {d : D} {k : Bool} {M' : Store} (rm : RepM p ι H M) (rx : Rep p ι H x d) (e : truD d M = .ok k M') : M' = M ∧ TruV p.K x H k := by
  cases rx with
  | non => cases e; exact ⟨rfl, rfl⟩
  | bl b => cases e; exact ⟨rfl, rfl⟩
  | int i => cases e; exact ⟨rfl, rfl⟩
  | str x =>
    have e2 : (if x.length ≤ sizeLine then .ok ((x.length : Int) != 0) M else .no : R Bool) = .ok k M' := e
    split at e2
    · rename_i hl
      cases e2
      exact ⟨rfl, hl, rfl⟩
    · cases e2
  | @ref a0 i hi =>
    have e2 : (match lstRd M i with | some xs => .ok (!xs.isEmpty) M | none => .no : R Bool) = .ok k M' := e
    cases el : lstRd M i with
    | none => rw [el] at e2; cases e2
    | some ds =>
      rw [el] at e2
      cases e2
      obtain ⟨a1, vs, e1, hq, rl⟩ := lstRd_at rm (.ref hi) el
      cases e1
      exact ⟨rfl, .inl ⟨vs, hq _, by rw [RepL.isEmpty rl]⟩⟩
  | tup _ _ => cases e
  | kt _ _ => cases e
  | gl _ _ => cases e
  | ty _ => cases e
theorem truD_noex {d : D} {C : Str} {fs : Fs} {M M' : Store} (e : truD d M = .ex C fs M') : False := by
  unfold truD at e
  split at e <;> first | cases e | (split at e <;> cases e)
/-- by truth: the part's own value, or what follows -/
def orD [DecidableEq Str] [DecidableEq Key] [DecidableEq String] [(α : Type) → GetElem? (List α) Nat α fun l i => i < l.length] [(α : Type) → Append (List α)] [(i j : Int) → Decidable (i < j)] [(i j : Int) → Decidable (i ≤ j)] (da db : ED) : ED := fun ρ M => (da ρ M).bind fun x M1 => (truD x M1).bind fun k M2 => if k = true then .ok x M2 else db ρ M2
def andD [DecidableEq Str] [DecidableEq Key] [DecidableEq String] [(α : Type) → GetElem? (List α) Nat α fun l i => i < l.length] [(α : Type) → Append (List α)] [(i j : Int) → Decidable (i < j)] [(i j : Int) → Decidable (i ≤ j)] (da db : ED) : ED := fun ρ M => (da ρ M).bind fun x M1 => (truD x M1).bind fun k M2 => if k = true then db ρ M2 else .ok x M2
def notD [DecidableEq Str] [DecidableEq Key] [DecidableEq String] [(α : Type) → GetElem? (List α) Nat α fun l i => i < l.length] [(α : Type) → Append (List α)] [(i j : Int) → Decidable (i < j)] [(i j : Int) → Decidable (i ≤ j)] (da : ED) : ED := fun ρ M => (da ρ M).bind fun x M1 => (truD x M1).bind fun k M2 => .ok (.bl (!k)) M2
theorem tru_bind {α β : Type} {p : Pw} {rel : List Addr → Hp → β → α → Prop} {Q : β → Hp → Prop} {W : XK} {x : V} {d : D} {f : Bool → Store → R α} (rm : RepM p ι H M) (rx : Rep p ι H x d) (q : Post p ι H rel Q W ((truD d M).bind f)) :
    ∃ k, TruV p.K x H k ∧ Post p ι H rel Q W (f k M) := by
  cases e : truD d M with
  | ok k M' =>
    rw [e] at q
    obtain ⟨rfl, h⟩ := tru_rep rm rx e
    exact ⟨k, h, q⟩
  | ex C fs M' => exact (truD_noex e).elim
  | no => rw [e] at q; exact q.elim
theorem q_or (ha : PE X a (rE X W da)) (hb : PE X (.BoolOp .Or (b :: rest) pos) (rE X W db)) : PE X (.BoolOp .Or (a :: b :: rest) pos) (rE X W (orD da db)) :=
  (pe_orT ha hb).imp fun σ H Q ⟨ι, ρ, M, rm, re, q⟩ => ⟨ι, ρ, M, rm, re, (Post.bind q).imp fun x H1 ⟨ι1, d, M1, m1, rm1, rx, q1⟩ => by
    obtain ⟨k, h, q2⟩ := tru_bind rm1 rx q1
    refine ⟨k, h, ?_⟩
    cases k with
    | true => exact iteT (Post.ret q2 rm1 rx)
    | false => exact iteF ⟨ι1, ρ, M1, rm1, re.mono m1, q2⟩⟩
theorem q_and (ha : PE X a (rE X W da)) (hb : PE X (.BoolOp .And (b :: rest) pos) (rE X W db)) : PE X (.BoolOp .And (a :: b :: rest) pos) (rE X W (andD da db)) :=
  (pe_andT ha hb).imp fun σ H Q ⟨ι, ρ, M, rm, re, q⟩ => ⟨ι, ρ, M, rm, re, (Post.bind q).imp fun x H1 ⟨ι1, d, M1, m1, rm1, rx, q1⟩ => by
    obtain ⟨k, h, q2⟩ := tru_bind rm1 rx q1
    refine ⟨k, h, ?_⟩
    cases k with
    | false => exact iteF (Post.ret q2 rm1 rx)
    | true => exact iteT ⟨ι1, ρ, M1, rm1, re.mono m1, q2⟩⟩
theorem q_one {op} (ha : PE X a (rE X W da)) : PE X (.BoolOp op [a] pos) (rE X W da) := pe_one ha
theorem q_not (ha : PE X a (rE X W da)) : PE X (.UnaryOp .Not a pos) (rE X W (notD da)) :=
  (pe_notT ha).imp fun σ H Q ⟨ι, ρ, M, rm, re, q⟩ => ⟨ι, ρ, M, rm, re, (Post.bind q).imp fun x H1 ⟨ι1, d, M1, m1, rm1, rx, q1⟩ => by
    obtain ⟨k, h, q2⟩ := tru_bind rm1 rx q1
    exact ⟨k, h, Post.ret q2 rm1 (.bl _)⟩⟩
/-! tests -/
def andT [DecidableEq Str] [DecidableEq Key] [DecidableEq String] [(α : Type) → GetElem? (List α) Nat α fun l i => i < l.length] [(α : Type) → Append (List α)] [(i j : Int) → Decidable (i < j)] [(i j : Int) → Decidable (i ≤ j)] (ta tb : TD) : TD := fun ρ M => (ta ρ M).bind fun k M1 => if k = true then tb ρ M1 else .ok false M1
def orT [DecidableEq Str] [DecidableEq Key] [DecidableEq String] [(α : Type) → GetElem? (List α) Nat α fun l i => i < l.length] [(α : Type) → Append (List α)] [(i j : Int) → Decidable (i < j)] [(i j : Int) → Decidable (i ≤ j)] (ta tb : TD) : TD := fun ρ M => (ta ρ M).bind fun k M1 => if k = true then .ok true M1 else tb ρ M1
def notT [DecidableEq Str] [DecidableEq Key] [DecidableEq String] [(α : Type) → GetElem? (List α) Nat α fun l i => i < l.length] [(α : Type) → Append (List α)] [(i j : Int) → Decidable (i < j)] [(i j : Int) → Decidable (i ≤ j)] (ta : TD) : TD := fun ρ M => (ta ρ M).bind fun k M1 => .ok (!k) M1
/-- a comparison's value as a test -/
def blR [DecidableEq Str] [DecidableEq Key] [DecidableEq String] [(α : Type) → GetElem? (List α) Nat α fun l i => i < l.length] [(α : Type) → Append (List α)] [(i j : Int) → Decidable (i < j)] [(i j : Int) → Decidable (i ≤ j)] : D → Store → R Bool
  | .bl k, M => .ok k M
  | _, _ => .no
def blT [DecidableEq Str] [DecidableEq Key] [DecidableEq String] [(α : Type) → GetElem? (List α) Nat α fun l i => i < l.length] [(α : Type) → Append (List α)] [(i j : Int) → Decidable (i < j)] [(i j : Int) → Decidable (i ≤ j)] (da : ED) : TD := fun ρ M => (da ρ M).bind blR
theorem tru_post {p : Pw} {Q : Bool → Hp → Prop} {W : XK} {k : Bool} (rm : RepM p ι H M) (q : Post p ι H (fun _ _ b c => b = c) Q W (.ok k M)) : Q k H := q ι H k .refl rm rfl
theorem blT_post {p : Pw} {Q : Bool → Hp → Prop} {W : XK} {x : V} {d : D} (rm : RepM p ι H M) (rx : Rep p ι H x d) (q : Post p ι H (fun _ _ b c => b = c) Q W (blR d M)) : ∃ k, x = .bl k ∧ Q k H := by
  cases rx with
  | bl k => exact ⟨k, rfl, tru_post rm q⟩
  | _ => exact q.elim
theorem qt_cmp {op : CmpOp} {f : D → D → Store → R D} (ho : OpS X (compareOp op) f) (ha : PE X a (rE X W da)) (hb : PE X b (rE X W db)) (hm : behindInMarks op b = false) : PT X (.Compare a [op] [b] pos) (rT X W (blT (binD f da db))) := by
  refine ⟨fun pins s σ H Q I h => ?_⟩
  obtain ⟨ι, ρ, M, rm, re, q⟩ := h
  have h2 : rE X W (binD f da db) σ H (fun x H' => ∃ k, x = .bl k ∧ Q k H') := ⟨ι, ρ, M, rm, re, (Post.bind q).imp fun x H1 ⟨ι1, d, M1, m1, rm1, rx, q1⟩ => blT_post rm1 rx q1⟩
  refine wpAny_isTrue_Compare1 (thn (ha.run pins s σ H _ I (two_of h2)) fun v s1 ⟨x, H1, I1, r1, q1⟩ => thn (hb.run pins s1 σ H1 _ I1 q1) fun u s2 ⟨y, H2, I2, r2, q2⟩ =>
    thn (ho.two I2 r1 r2 q2) fun c s3 ⟨z, H3, I3, r3, k, e, q3⟩ => ?_) hm
  subst e
  cases r3
  exact wpAny_truthy_bool ⟨H3, I3, q3⟩
theorem qt_and1 (ha : PT X a (rT X W ta)) : PW X (.BoolOp .And [a] pos) (rT X W ta) := pw_and1 ha
theorem qt_or1 (ha : PT X a (rT X W ta)) : PW X (.BoolOp .Or [a] pos) (rT X W ta) := pw_or1 ha
theorem PW.imp' {t t' : TT} (h : PW X e t) (k : ∀ σ H Q, t' σ H Q → t σ H Q) : PW X e t' := ⟨fun w pins s σ H Q I q => h.run w pins s σ H Q I (k σ H Q q)⟩
theorem qt_and (ha : PT X a (rT X W ta)) (hb : PW X (.BoolOp .And (b :: rest) pos) (rT X W tb)) : PW X (.BoolOp .And (a :: b :: rest) pos) (rT X W (andT ta tb)) :=
  PW.imp' (pw_and ha hb) fun σ H Q ⟨ι, ρ, M, rm, re, q⟩ => ⟨ι, ρ, M, rm, re, (Post.bind q).imp fun k H1 ⟨ι1, k', M1, m1, rm1, ek, q1⟩ => by
    subst ek
    cases k with
    | true => exact iteT ⟨ι1, ρ, M1, rm1, re.mono m1, q1⟩
    | false => exact iteF (tru_post rm1 q1)⟩
theorem qt_or (ha : PT X a (rT X W ta)) (hb : PW X (.BoolOp .Or (b :: rest) pos) (rT X W tb)) : PW X (.BoolOp .Or (a :: b :: rest) pos) (rT X W (orT ta tb)) :=
  PW.imp' (pw_or ha hb) fun σ H Q ⟨ι, ρ, M, rm, re, q⟩ => ⟨ι, ρ, M, rm, re, (Post.bind q).imp fun k H1 ⟨ι1, k', M1, m1, rm1, ek, q1⟩ => by
    subst ek
    cases k with
    | false => exact iteF ⟨ι1, ρ, M1, rm1, re.mono m1, q1⟩
    | true => exact iteT (tru_post rm1 q1)⟩
theorem qt_not (ha : PT X a (rT X W ta)) : PT X (.UnaryOp .Not a pos) (rT X W (notT ta)) :=
  (pt_not ha).imp fun σ H Q ⟨ι, ρ, M, rm, re, q⟩ => ⟨ι, ρ, M, rm, re, (Post.bind q).imp fun k H1 ⟨ι1, k', M1, m1, rm1, ek, q1⟩ => by
    subst ek
    exact tru_post rm1 q1⟩
def ifD [DecidableEq Str] [DecidableEq Key] [DecidableEq String] [(α : Type) → GetElem? (List α) Nat α fun l i => i < l.length] [(α : Type) → Append (List α)] [(i j : Int) → Decidable (i < j)] [(i j : Int) → Decidable (i ≤ j)] (tc : TD) (da db : ED) : ED := fun ρ M => (tc ρ M).bind fun k M1 => if k = true then da ρ M1 else db ρ M1
theorem q_if {tc : TD} (hc : PT X c (rT X W tc)) (ha : PE X a (rE X W da)) (hb : PE X b (rE X W db)) : PE X (.IfExp c a b pos) (rE X W (ifD tc da db)) :=
  (pe_ifExp hc ha hb).imp fun σ H Q ⟨ι, ρ, M, rm, re, q⟩ => ⟨ι, ρ, M, rm, re, (Post.bind q).imp fun k H1 ⟨ι1, k', M1, m1, rm1, ek, q1⟩ => by
    subst ek
    cases k with
    | true => exact iteT ⟨ι1, ρ, M1, rm1, re.mono m1, q1⟩
    | false => exact iteF ⟨ι1, ρ, M1, rm1, re.mono m1, q1⟩⟩
/-- a op1 b op2 c -/
def chainD [DecidableEq Str] [DecidableEq Key] [DecidableEq String] [(α : Type) → GetElem? (List α) Nat α fun l i => i < l.length] [(α : Type) → Append (List α)] [(i j : Int) → Decidable (i < j)] [(i j : Int) → Decidable (i ≤ j)] (f g : D → D → Store → R D) (da db dc : ED) : ED := fun ρ M => (da ρ M).bind fun x M1 => (db ρ M1).bind fun y M2 => (f x y M2).bind fun z M3 => match z with
  | .bl true => (dc ρ M3).bind fun w M4 => g y w M4
  | .bl false => .ok (.bl false) M3
  | _ => .no
theorem q_chain {op op' : CmpOp} {f g : D → D → Store → R D} (ho : OpS X (compareOp op) f) (ho' : OpS X (compareOp op') g) (ha : PE X a (rE X W da)) (hb : PE X b (rE X W db)) (hc : PE X c (rE X W dc))
    (hm : lastMarks [op, op'] [b, c] = false) : PE X (.Compare a [op, op'] [b, c] pos) (rE X W (chainD f g da db dc)) := by
  refine ⟨fun pins s σ H Q I h => ?_⟩
  obtain ⟨ι, ρ, M, rm, re, q⟩ := h
  refine Compare_chain (thn (ha.run pins s σ H _ I ⟨ι, ρ, M, rm, re, Post.bind q⟩) fun v s1 ⟨x, H1, I1, r1, ι1, d, M1, m1, rm1, rx, q1⟩ =>
    chain_link (thn (hb.run pins s1 σ H1 _ I1 ⟨ι1, ρ, M1, rm1, re.mono m1, Post.bind q1⟩) fun u s2 ⟨y, H2, I2, r2, ι2, e, M2, m2, rm2, ry, q2⟩ =>
    thn (ho pins s2 σ H2 x y v u _ ι2 M2 d e (WE W σ) I2 r1 r2 rm2 (rx.mono m2) ry (Post.bind q2)) fun d' s3 ⟨z, H3, I3, r3, ι3, dz, M3, m3, rm3, rz, q3⟩ => ?_)) hm
  cases rz with
  | bl k =>
    cases r3
    refine wpAny_truthy_bool ?_
    cases k with
    | false => exact ite_ff ⟨.bl false, H3, I3, rfl, Post.ret q3 rm3 (.bl _)⟩
    | true =>
      refine ite_tt (chain_last (thn (hc.run pins s3 σ H3 _ I3 ⟨ι3, ρ, M3, rm3, ((re.mono m1).mono m2).mono m3, Post.bind q3⟩) fun w' s4 ⟨z', H4, I4, r4, ι4, dw, M4, m4, rm4, rw4, q4⟩ => ?_))
      exact ho' pins s4 σ H4 y z' u w' Q ι4 M4 e dw (WE W σ) I4 r2 r4 rm4 ((ry.mono m3).mono m4) rw4 q4
  | _ => exact q3.elim
theorem qt_chain {op op' : CmpOp} {f g : D → D → Store → R D} (ho : OpS X (compareOp op) f) (ho' : OpS X (compareOp op') g) (ha : PE X a (rE X W da)) (hb : PE X b (rE X W db)) (hc : PE X c (rE X W dc))
    (hm : lastMarks [op, op'] [b, c] = false) : PT X (.Compare a [op, op'] [b, c] pos) (rT X W (blT (chainD f g da db dc))) := by
  refine ⟨fun pins s σ H Q I h => ?_⟩
  obtain ⟨ι, ρ, M, rm, re, q⟩ := h
  have h2 : Post (pw X) ι H (Rep (pw X)) (fun x H' => ∃ k, x = .bl k ∧ Q k H') (WE W σ) (chainD f g da db dc ρ M) := (Post.bind q).imp fun x H1 ⟨ι1, d, M1, m1, rm1, rx, q1⟩ => blT_post rm1 rx q1
  refine isTrue_chain (thn (ha.run pins s σ H _ I ⟨ι, ρ, M, rm, re, Post.bind h2⟩) fun v s1 ⟨x, H1, I1, r1, ι1, d, M1, m1, rm1, rx, q1⟩ =>
    test_link (thn (hb.run pins s1 σ H1 _ I1 ⟨ι1, ρ, M1, rm1, re.mono m1, Post.bind q1⟩) fun u s2 ⟨y, H2, I2, r2, ι2, e, M2, m2, rm2, ry, q2⟩ =>
    thn (ho pins s2 σ H2 x y v u _ ι2 M2 d e (WE W σ) I2 r1 r2 rm2 (rx.mono m2) ry (Post.bind q2)) fun d' s3 ⟨z, H3, I3, r3, ι3, dz, M3, m3, rm3, rz, q3⟩ => ?_)) hm
  cases rz with
  | bl k =>
    cases r3
    refine wpAny_truthy_bool ?_
    cases k with
    | false =>
      obtain ⟨k', e', q'⟩ := Post.ret q3 rm3 (.bl _)
      cases e'
      exact ite_ff ⟨H3, I3, q'⟩
    | true =>
      refine ite_tt (test_last (thn (hc.run pins s3 σ H3 _ I3 ⟨ι3, ρ, M3, rm3, ((re.mono m1).mono m2).mono m3, Post.bind q3⟩) fun w' s4 ⟨z', H4, I4, r4, ι4, dw, M4, m4, rm4, rw4, q4⟩ =>
        thn (ho' pins s4 σ H4 y z' u w' _ ι4 M4 e dw (WE W σ) I4 r2 r4 rm4 ((ry.mono m3).mono m4) rw4 q4) fun d2 s5 ⟨z2, H5, I5, r5, k2, e2, q5⟩ => ?_))
      subst e2
      cases r5
      exact wpAny_truthy_bool ⟨H5, I5, q5⟩
  | _ => exact q3.elim

/-! ### one place -/
def unD [DecidableEq Str] [DecidableEq Key] [DecidableEq String] [(α : Type) → GetElem? (List α) Nat α fun l i => i < l.length] [(α : Type) → Append (List α)] [(i j : Int) → Decidable (i < j)] [(i j : Int) → Decidable (i ≤ j)] (f : D → Store → R D) (da : ED) : ED := fun ρ M => (da ρ M).bind f
def negD [DecidableEq Str] [DecidableEq Key] [DecidableEq String] [(α : Type) → GetElem? (List α) Nat α fun l i => i < l.length] [(α : Type) → Append (List α)] [(i j : Int) → Decidable (i < j)] [(i j : Int) → Decidable (i ≤ j)] : D → Store → R D
  | .int i, M => ret (.int (-i)) M
  | _, _ => .no
theorem q_neg (ha : PE X a (rE X W da)) : PE X (.UnaryOp .USub a pos) (rE X W (unD negD da)) := (pe_un un_neg ha).imp fun σ H Q ⟨ι, ρ, M, rm, re, q⟩ =>
  ⟨ι, ρ, M, rm, re, (Post.bind q).imp fun x H1 ⟨ι1, d, M1, m1, rm1, rx, q1⟩ => by
    cases rx with
    | int i => exact ⟨i, rfl, Post.ret q1 rm1 (.int _)⟩
    | _ => exact q1.elim⟩

/-! ### a[i] -/
/-- a list's place, a tuple's, a text's; i of any sign -/
def ixJ (n : Nat) : Int → Option Nat
  | .ofNat m => if Nat.blt m n = true then some m else none
  | .negSucc m => if Nat.blt m n = true then some (n - 1 - m) else none
theorem ixJ_eq {n : Nat} : ∀ {i : Int}, ixJ n i = ixN n i
  | .ofNat m => by
    show (if Nat.ble (m + 1) n = true then some m else none) = if (0 : Int) ≤ (m : Int) then (if (m : Int) < (n : Int) then some (m : Int).toNat else none) else if -(n : Int) ≤ (m : Int) then some ((m : Int) + n).toNat else none
    rw [if_pos (show (0 : Int) ≤ (m : Int) by omega)]
    by_cases h : m < n
    · rw [if_pos (Nat.ble_eq_true_of_le h), if_pos (by omega)]; rfl
    · rw [if_neg (fun z => h (Nat.le_of_ble_eq_true z)), if_neg (by omega)]
  | .negSucc m => by
    show (if Nat.ble (m + 1) n = true then some (n - 1 - m) else none) = if (0 : Int) ≤ Int.negSucc m then (if Int.negSucc m < (n : Int) then some (Int.negSucc m).toNat else none) else if -(n : Int) ≤ Int.negSucc m then some (Int.negSucc m + n).toNat else none
    rw [if_neg (show ¬ (0 : Int) ≤ Int.negSucc m by omega)]
    by_cases h : m < n
    · rw [if_pos (Nat.ble_eq_true_of_le h), if_pos (by omega)]
      congr 1
      omega
    · rw [if_neg (fun z => h (Nat.le_of_ble_eq_true z)), if_neg (by omega)]
def atJ [DecidableEq Str] [DecidableEq Key] [DecidableEq String] [(α : Type) → GetElem? (List α) Nat α fun l i => i < l.length] [(α : Type) → Append (List α)] [(i j : Int) → Decidable (i < j)] [(i j : Int) → Decidable (i ≤ j)] {α : Type} (xs : List α) (i : Int) : Option α := (ixJ xs.length i).bind fun j => xs[j]?
theorem atJ_eq {α : Type} {xs : List α} {i : Int} : atJ xs i = atI xs i := by
  unfold atJ atI
  rw [ixJ_eq]
def itemD [DecidableEq Str] [DecidableEq Key] [DecidableEq String] [(α : Type) → GetElem? (List α) Nat α fun l i => i < l.length] [(α : Type) → Append (List α)] [(i j : Int) → Decidable (i < j)] [(i j : Int) → Decidable (i ≤ j)] (d e : D) (M : Store) : R D := match e with
  | .int i => (match d with
    | .tup xs => (match atJ xs i with
      | some v => ret v M
      | none => .no)
    | .kt xs => (match atJ xs i with
      | some v => ret v M
      | none => .no)
    | .ref r => (match lstRd M r with
      | some xs => (match atJ xs i with
        | some v => ret v M
        | none => .no)
      | none => .no)
    | .str z => if z.length ≤ sizeLine then (match atJ z.cps.toList i with
      | some c => ret (.str ⟨#[c]⟩) M
      | none => .no) else .no
    | _ => .no)
  | _ => .no
theorem atI_rep {p : Pw} {vs : List V} {ds : List D} {i : Int} {d : D} (l : RepL p ι H vs ds) (e : atI ds i = some d) : ∃ v, atI vs i = some v ∧ Rep p ι H v d := by
  unfold atI at e ⊢
  rw [l.length]
  cases q : ixN ds.length i with
  | none => rw [q] at e; cases e
  | some j =>
    rw [q] at e
    exact l.get e
theorem q_item (ha : PE X a (rE X W da)) (hb : PE X b (rE X W db)) (hs : PlainIx b) : PE X (.Subscript a b pos) (rE X W (binD itemD da db)) :=
  (pe_ix ix_seq ha hb hs).imp fun σ H Q h => by
    obtain ⟨ι, ρ, M, rm, re, q⟩ := two_of h
    refine ⟨ι, ρ, M, rm, re, q.imp fun x H1 ⟨ι1, ρ1, M1, rm1, re1, q1⟩ => ⟨ι1, ρ1, M1, rm1, re1, q1.imp fun y H2 ⟨ι2, M2, d, e, rm2, rx, ry, q2⟩ => ?_⟩⟩
    unfold itemD at q2
    simp only [atJ_eq] at q2
    cases ry with
    | int i =>
      cases rx with
      | @tup a vs ds h l =>
        dsimp only at q2
        cases e1 : atI ds i with
        | none => rw [e1] at q2; exact q2.elim
        | some v =>
          rw [e1] at q2
          obtain ⟨u, e2, r⟩ := atI_rep l e1
          exact .inr (.inl ⟨a, vs, i, u, rfl, rfl, SqT.of h, e2, Post.ret q2 rm2 r⟩)
      | @kt a vs ds h l =>
        dsimp only at q2
        cases e1 : atI ds i with
        | none => rw [e1] at q2; exact q2.elim
        | some v =>
          rw [e1] at q2
          obtain ⟨u, e2, r⟩ := atI_rep l e1
          exact .inr (.inl ⟨a, vs, i, u, rfl, rfl, h.sq, e2, Post.ret q2 rm2 r⟩)
      | @ref a j hj =>
        dsimp only at q2
        cases e0 : lstRd M2 j with
        | none => rw [e0] at q2; exact q2.elim
        | some ds =>
          rw [e0] at q2
          dsimp only at q2
          obtain ⟨a1, vs, e3, hq, l⟩ := lstRd_at rm2 (.ref hj) e0
          cases e3
          cases e1 : atI ds i with
          | none => rw [e1] at q2; exact q2.elim
          | some v =>
            rw [e1] at q2
            obtain ⟨u, e2, r⟩ := atI_rep l e1
            exact .inl ⟨a, vs, i, u, rfl, rfl, hq _, e2, Post.ret q2 rm2 r⟩
      | str z =>
        dsimp only at q2
        split at q2
        · rename_i hl
          cases e1 : atI z.cps.toList i with
          | none => rw [e1] at q2; exact q2.elim
          | some c =>
            rw [e1] at q2
            exact .inr (.inr ⟨z, i, c, rfl, rfl, hl, e1, Post.ret q2 rm2 (.str _)⟩)
        · exact q2.elim
      | _ => exact q2.elim
    | _ => exact q2.elim

/-! ### a[lo:hi] -/
abbrev OD := Env1 → Store → R (Option Int)
def noPart [DecidableEq Str] [DecidableEq Key] [DecidableEq String] [(α : Type) → GetElem? (List α) Nat α fun l i => i < l.length] [(α : Type) → Append (List α)] [(i j : Int) → Decidable (i < j)] [(i j : Int) → Decidable (i ≤ j)] : OD := fun _ M => .ok none M
def somePart [DecidableEq Str] [DecidableEq Key] [DecidableEq String] [(α : Type) → GetElem? (List α) Nat α fun l i => i < l.length] [(α : Type) → Append (List α)] [(i j : Int) → Decidable (i < j)] [(i j : Int) → Decidable (i ≤ j)] (da : ED) : OD := fun ρ M => (da ρ M).bind fun x M1 => match x with
  | .int i => .ok (some i) M1
  | _ => .no
def rO [DecidableEq Str] [DecidableEq Key] [DecidableEq String] [(α : Type) → GetElem? (List α) Nat α fun l i => i < l.length] [(α : Type) → Append (List α)] [(i j : Int) → Decidable (i < j)] [(i j : Int) → Decidable (i ≤ j)] (X : Cx) (W : WX) (d : OD) : TO := fun σ H Q => ∃ ι ρ M, RepM (pw X) ι H M ∧ RepE (pw X) ι H σ ρ ∧ Post (pw X) ι H (fun _ _ b c => b = c) Q (WE W σ) (d ρ M)
theorem PO.imp' {o : Option Expr} {t t' : TO} (h : PO X o t) (k : ∀ σ H Q, t' σ H Q → t σ H Q) : PO X o t' := ⟨fun pins s σ H Q I q => h.run pins s σ H Q I (k σ H Q q)⟩
theorem q_noPart : PO X none (rO X W noPart) := PO.imp' po_none fun σ H Q ⟨ι, ρ, M, rm, re, q⟩ => q ι H none .refl rm rfl
theorem q_somePart (ha : PE X a (rE X W da)) : PO X (some a) (rO X W (somePart da)) := PO.imp' (po_some ha) fun σ H Q ⟨ι, ρ, M, rm, re, q⟩ =>
  ⟨ι, ρ, M, rm, re, (Post.bind q).imp fun x H1 ⟨ι1, d, M1, m1, rm1, rx, q1⟩ => by
    cases rx with
    | int i => exact ⟨i, rfl, q1 ι1 H1 _ .refl rm1 rfl⟩
    | _ => exact q1.elim⟩
def cutL [DecidableEq Str] [DecidableEq Key] [DecidableEq String] [(α : Type) → GetElem? (List α) Nat α fun l i => i < l.length] [(α : Type) → Append (List α)] [(i j : Int) → Decidable (i < j)] [(i j : Int) → Decidable (i ≤ j)] {α : Type} (xs : List α) (lo hi : Option Int) : List α := (xs.drop (HT.sIx xs.length 0 lo)).take (HT.sIx xs.length xs.length hi - HT.sIx xs.length 0 lo)
def sliceD [DecidableEq Str] [DecidableEq Key] [DecidableEq String] [(α : Type) → GetElem? (List α) Nat α fun l i => i < l.length] [(α : Type) → Append (List α)] [(i j : Int) → Decidable (i < j)] [(i j : Int) → Decidable (i ≤ j)] (d : D) (lo hi : Option Int) (M : Store) : R D := match d with
  | .tup xs => ret (.tup (cutL xs lo hi)) M
  | .ref r => (match lstRd M r with
    | some xs => mkLst (cutL xs lo hi) M
    | none => .no)
  | .str z => if z.length ≤ sizeLine then ret (.str (Txt.slice z lo hi)) M else .no
  | _ => .no
def slD [DecidableEq Str] [DecidableEq Key] [DecidableEq String] [(α : Type) → GetElem? (List α) Nat α fun l i => i < l.length] [(α : Type) → Append (List α)] [(i j : Int) → Decidable (i < j)] [(i j : Int) → Decidable (i ≤ j)] (da : ED) (dl dh : OD) : ED := fun ρ M => (da ρ M).bind fun x M1 => (dl ρ M1).bind fun l M2 => (dh ρ M2).bind fun u M3 => sliceD x l u M3
theorem RepL.cut {p : Pw} {vs : List V} {ds : List D} (l : RepL p ι H vs ds) (lo hi : Option Int) : RepL p ι H (cutV vs lo hi) (cutL ds lo hi) := by
  unfold cutV cutL
  rw [l.length]
  exact (l.drop _).take _
theorem sIx_le (n : Nat) (d : Nat) (hd : d ≤ n) (o : Option Int) : True := trivial
theorem q_slice {lo hi : Option Expr} {dl dh : OD} {p2 : Pos} (he : PE X a (rE X W da)) (hl : PO X lo (rO X W dl)) (hu : PO X hi (rO X W dh)) : PE X (.Subscript a (.Slice lo hi none p2) pos) (rE X W (slD da dl dh)) :=
  (pe_slice ((sl_list.or sl_tupA).or C8.sl_txt) he hl hu).imp fun σ H Q ⟨ι, ρ, M, rm, re, q⟩ => by
    refine ⟨ι, ρ, M, rm, re, (Post.bind q).imp fun x H1 ⟨ι1, d, M1, m1, rm1, rx, q1⟩ => ⟨ι1, ρ, M1, rm1, re.mono m1, (Post.bind q1).imp fun l H2 ⟨ι2, l', M2, m2, rm2, el, q2⟩ =>
      ⟨ι2, ρ, M2, rm2, (re.mono m1).mono m2, (Post.bind q2).imp fun u H3 ⟨ι3, u', M3, m3, rm3, eu, q3⟩ => ?_⟩⟩⟩
    subst el eu
    have rx := (rx.mono m2).mono m3
    unfold sliceD at q3
    cases rx with
    | @tup a vs ds h lst =>
      refine .inl (.inr ⟨a, vs, rfl, SqT.of h, fun hw => ?_, fun hw p hp => ?_⟩)
      · have e : cutL ds l u = ds := by
          unfold cutL
          rw [← lst.length, hw.1, hw.2, List.drop_zero, Nat.sub_zero, lst.length, List.take_length]
        dsimp only at q3
        rw [e] at q3
        exact Post.ret q3 rm3 (.tup h lst)
      · obtain ⟨rm4, m4⟩ := rm3.upd_new (u := .tup (cutV vs l u)) hp
        exact q3 ι3 _ _ m4 rm4 (.tup upd_same ((lst.cut l u).mono m4))
    | @ref a j hj =>
      dsimp only at q3
      cases e0 : lstRd M3 j with
      | none => rw [e0] at q3; exact q3.elim
      | some ds =>
        rw [e0] at q3
        obtain ⟨a1, vs, e3, hq, lst⟩ := lstRd_at rm3 (.ref hj) e0
        cases e3
        obtain ⟨hl, k⟩ := mkLst_post rm3 (lst.cut l u) q3
        exact .inl (.inl ⟨a, vs, rfl, hq _, k⟩)
    | str z =>
      dsimp only at q3
      split at q3
      · rename_i hz
        exact .inr ⟨z, rfl, hz, Post.ret q3 rm3 (.str _)⟩
      · exact q3.elim
    | _ => exact q3.elim
end
end Ev
set_option Elab.async false
set_option linter.all false
set_option maxRecDepth 100000
set_option maxHeartbeats 4000000
/-! What the module's names stand for; in, dicts; calls of built-ins; methods of built-in types. -/
namespace Ev
open PySem PySem.Spec PyProof.Rows L2

/-- what the module is, of which the evaluator knows -/
structure Facts (X : Cx) (g : Pg) : Prop where
  val : ∀ x d, g.val.lookup x = some d → ∃ u v, X.mg x = some u ∧ RelV v u ∧ ∀ ι H, Rep (pw X) ι H v d
  tab : ∀ x kvs, g.tab.lookup x = some kvs → ∃ a es n, X.mg x = some (.ref a) ∧ KDict X.K X.w a es n ∧
    ∀ z : Str, (∃ d u v, kvs.lookup z = some d ∧ PySem.W.nsIn X.K a z = some (some u) ∧ RelV v u ∧ ∀ ι H, Rep (pw X) ι H v d) ∨ (kvs.lookup z = none ∧ PySem.W.nsIn X.K a z = some none)
  cls : ∀ c i, g.cls.lookup c = some i → X.mg c = some (.ref (He.ga X.K c)) ∧ Cls X.K (He.ga X.K c) ∧ PySem.W.keepIn X.K (.ref (He.ga X.K c)) = true ∧ (∀ f ∈ i.fields, NoAttr X.K (He.ga X.K c) f) ∧
    PySem.W.findIn X.K (.ref (He.ga X.K c)) "__class__" = some (some (.builtin "object.__class__")) ∧ PySem.W.mroIn X.K (He.ga X.K c) (.type "object") = some true
  desc : PySem.W.specialIn X.K (.builtin "object.__class__") "__get__" = some (some (.builtin "getset_descriptor.__get__")) ∧ PySem.W.takesIn X.K (.builtin "object.__class__") = some true
  isi : ∀ t c, (∀ n, t = .ty n → n ∈ tgNames) → (∀ n, c = .ty n → n ∈ tgNames) → (∀ n, t = .own n → (g.cls.lookup n).isSome) → (∀ n, c = .own n → (g.cls.lookup n).isSome) → PySem.W.kitOne X.K (t.v X.K) (c.v X.K) = some (isiT t c)

section
variable {X : Cx} {W : WX} {g : Pg} {a b c e : Expr} {es rest : List Expr} {da db dc : ED} {dr : AD} {pos : Pos} {pins : List (Addr × Obj)} {σ : L2.St} {H : Hp} {s : Shared} {ι : List Addr} {ρ : Env1} {M : Store}

/-! ### in -/
def keyOf [DecidableEq Str] [DecidableEq Key] [DecidableEq String] [(α : Type) → GetElem? (List α) Nat α fun l i => i < l.length] [(α : Type) → Append (List α)] [(i j : Int) → Decidable (i < j)] [(i j : Int) → Decidable (i ≤ j)] : D → Option Key
  | .int i => some (.inl i)
  | .str x => some (.inr x)
  | _ => none
def keysOf [DecidableEq Str] [DecidableEq Key] [DecidableEq String] [(α : Type) → GetElem? (List α) Nat α fun l i => i < l.length] [(α : Type) → Append (List α)] [(i j : Int) → Decidable (i < j)] [(i j : Int) → Decidable (i ≤ j)] : D → Option (List Key)
  | .tup xs => mapO keyOf xs
  | _ => none
theorem keyOf_rep {p : Pw} {x : V} {d : D} {k : Key} (r : Rep p ι H x d) (e : keyOf d = some k) : x = kV k := by
  cases r <;> first | (cases e; rfl) | cases e
theorem keysOf_l {p : Pw} : ∀ {vs : List V} {ds : List D} {ks : List Key}, RepL p ι H vs ds → mapO keyOf ds = some ks → vs = ks.map kV
  | _, _, _, .nil, e => by cases e; rfl
  | _, d :: ds, ks, .cons r l, e => by
    unfold mapO at e
    cases e1 : keyOf d with
    | none => rw [e1] at e; cases e
    | some k =>
      rw [e1] at e
      cases e2 : mapO keyOf ds with
      | none => rw [e2] at e; cases e
      | some ks' =>
        rw [e2] at e
        cases e
        rw [List.map_cons, keyOf_rep r e1, keysOf_l l e2]
/-- a dict's entry at a key: of the two sorts; none where the key is none or the sort another one -/
def dget [DecidableEq Str] [DecidableEq Key] [DecidableEq String] [(α : Type) → GetElem? (List α) Nat α fun l i => i < l.length] [(α : Type) → Append (List α)] [(i j : Int) → Decidable (i < j)] [(i j : Int) → Decidable (i ≤ j)] (M : Store) (r : Nat) (k : D) : Option (Option D) := match M[r]? with
  | some (.dK kvs) => (keyOf k).map fun k => (kvs.find? fun kv => decide (kv.1 = k)).map (·.2)
  | some (.lkK kvs) => (keyOf k).map fun k => (kvs.find? fun kv => decide (kv.1 = k)).map (·.2)
  | some (.dT kvs) => (keysOf k).map fun k => (kvs.find? fun kv => decide (kv.1 = k)).map (·.2)
  | some (.lkT kvs) => (keysOf k).map fun k => (kvs.find? fun kv => decide (kv.1 = k)).map (·.2)
  | _ => none
theorem RepK.find {κ : Type} [DecidableEq κ] {p : Pw} (k : κ) : ∀ {vs : List (κ × V)} {ds : List (κ × D)}, RepK p ι H vs ds →
    match (ds.find? fun kv => decide (kv.1 = k)).map (·.2) with
    | some d => ∃ v, valV vs k = some v ∧ Rep p ι H v d
    | none => valV vs k = none
  | _, _, .nil => rfl
  | (k', v) :: vs, (_, d) :: ds, .cons r l => by
    by_cases e : k' = k
    · subst e
      simp only [List.find?_cons, decide_true, Option.map_some]
      exact ⟨v, valV_pos rfl, r⟩
    · have ih := RepK.find k l
      simp only [List.find?_cons, decide_eq_false e]
      rw [valV_neg (p := (k', v)) e]
      exact ih
theorem RepK.findO {κ : Type} [DecidableEq κ] {p : Pw} {vs : List (κ × V)} {ds : List (κ × D)} (l : RepK p ι H vs ds) (k : κ) {o : Option D} (e : (ds.find? fun kv => decide (kv.1 = k)).map (·.2) = o) :
    ∃ ov, valV vs k = ov ∧ ov.isSome = o.isSome ∧ ∀ d, o = some d → ∃ v, ov = some v ∧ Rep p ι H v d := by
  have h := RepK.find k l
  rw [e] at h
  cases o with
  | none => exact ⟨none, h, rfl, fun d q => by cases q⟩
  | some d =>
    obtain ⟨v, e2, r⟩ := h
    exact ⟨some v, e2, rfl, fun d' q => by cases q; exact ⟨v, rfl, r⟩⟩
theorem keysOf_rep {p : Pw} {x : V} {d : D} {ks : List Key} (rm : RepM p ι H M) (r : Rep p ι H x d) (e : keysOf d = some ks) : ∃ b vs, x = .ref b ∧ H b = some (.tup vs) ∧ vs = ks.map kV := by
  cases r with
  | tup h l => exact ⟨_, _, rfl, h, keysOf_l l e⟩
  | _ => cases e
theorem dget_ok {p : Pw} {r : Nat} {x y : V} {k : D} {o : Option D} (rm : RepM p ι H M) (hx : Rep p ι H x (.ref r)) (hy : Rep p ι H y k) (e : dget M r k = some o) :
    ∃ a ov, x = .ref a ∧ DGet H a y ov ∧ ov.isSome = o.isSome ∧ ∀ d, o = some d → ∃ v, ov = some v ∧ Rep p ι H v d := by
  cases hx with
  | @ref a _ hi =>
  unfold dget at e
  cases q : M[r]? with
  | none => rw [q] at e; cases e
  | some w =>
    have ro := rm.at_ r a w hi q
    rw [q] at e
    cases w with
    | dK kvs =>
      obtain ⟨vs, hv, l⟩ := ro
      obtain ⟨k', e1, e2⟩ := Option.map_eq_some_iff.mp e
      obtain ⟨ov, e3, e4, e5⟩ := l.findO k' e2
      exact ⟨a, ov, rfl, .inl ⟨vs, k', .inl hv, keyOf_rep hy e1, e3.symm⟩, e4, e5⟩
    | lkK kvs =>
      obtain ⟨vs, ob, hv, l⟩ := ro
      obtain ⟨k', e1, e2⟩ := Option.map_eq_some_iff.mp e
      obtain ⟨ov, e3, e4, e5⟩ := l.findO k' e2
      exact ⟨a, ov, rfl, .inl ⟨vs, k', .inr ⟨ob, hv⟩, keyOf_rep hy e1, e3.symm⟩, e4, e5⟩
    | dT kvs =>
      obtain ⟨vs, hv, l⟩ := ro
      obtain ⟨k', e1, e2⟩ := Option.map_eq_some_iff.mp e
      obtain ⟨b, ws, rfl, ht, ew⟩ := keysOf_rep rm hy e1
      have hb := ht
      subst ew
      obtain ⟨ov, e3, e4, e5⟩ := l.findO k' e2
      exact ⟨a, ov, rfl, .inr ⟨vs, k', b, .inl hv, rfl, hb, e3.symm⟩, e4, e5⟩
    | lkT kvs =>
      obtain ⟨vs, ob, hv, l⟩ := ro
      obtain ⟨k', e1, e2⟩ := Option.map_eq_some_iff.mp e
      obtain ⟨b, ws, rfl, ht, ew⟩ := keysOf_rep rm hy e1
      have hb := ht
      subst ew
      obtain ⟨ov, e3, e4, e5⟩ := l.findO k' e2
      exact ⟨a, ov, rfl, .inr ⟨vs, k', b, .inr ⟨ob, hv⟩, rfl, hb, e3.symm⟩, e4, e5⟩
    | _ => cases e

def rInT [DecidableEq Str] [DecidableEq Key] [DecidableEq String] [(α : Type) → GetElem? (List α) Nat α fun l i => i < l.length] [(α : Type) → Append (List α)] [(i j : Int) → Decidable (i < j)] [(i j : Int) → Decidable (i ≤ j)] (K : PySem.W.Frag) (neg : Bool) : R2 := fun x y H Q => ∃ d ds, Dp K H x d ∧ Dp K H y (.tuple ds) ∧ SeqAt.shaped d = true ∧ SeqAt.shaped (.tuple ds) = true ∧ Q (.bl (if neg then !(ds.any fun z => PyData.eqv z d) else ds.any fun z => PyData.eqv z d)) H
theorem op_inT (hu : X.A.units + 65 < cLine) : OpR X (compareOp .In) (rInT X.K false) := by
  intro pins s σ H x y v u Q I rx ry h
  obtain ⟨d, ds, hd, he, sd, se, q⟩ := h
  obtain ⟨as, r1⟩ := Dp.reads I d x v hd rx
  obtain ⟨bs, r2⟩ := Dp.reads I (.tuple ds) y u he ry
  exact SeqAt.in_tuple_reads r2 r1 (SeqAt.canLay_of_shaped se) (SeqAt.canLay_of_shaped sd) (room_in_shaped sd hu) ⟨.bl _, H, I, rfl, q⟩
theorem op_notInT (hu : X.A.units + 65 < cLine) : OpR X (compareOp .NotIn) (rInT X.K true) := by
  intro pins s σ H x y v u Q I rx ry h
  obtain ⟨d, ds, hd, he, sd, se, q⟩ := h
  obtain ⟨as, r1⟩ := Dp.reads I d x v hd rx
  obtain ⟨bs, r2⟩ := Dp.reads I (.tuple ds) y u he ry
  exact SeqAt.notIn_tuple_reads r2 r1 (SeqAt.canLay_of_shaped se) (SeqAt.canLay_of_shaped sd) (room_in_shaped sd hu) ⟨.bl _, H, I, rfl, q⟩
def op_dictR [DecidableEq Str] [DecidableEq Key] [DecidableEq String] [(α : Type) → GetElem? (List α) Nat α fun l i => i < l.length] [(α : Type) → Append (List α)] [(i j : Int) → Decidable (i < j)] [(i j : Int) → Decidable (i ≤ j)] (neg : Bool) : R2 := fun x y H Q => ∃ a o, y = .ref a ∧ DGet H a x o ∧ Q (.bl (if neg then !o.isSome else o.isSome)) H
theorem op_inDict (hu : X.A.units + 1 < cLine) : OpR X (compareOp .In) (op_dictR false) := by
  intro pins s σ H x y v u Q I rx ry h
  obtain ⟨a, o, rfl, gt, q⟩ := h
  obtain rfl : u = Value.ref a := ry
  exact d_in hu I gt rx fun s3 I3 => ⟨.bl o.isSome, H, I3, rfl, q⟩
theorem op_notInDict (hu : X.A.units + 1 < cLine) : OpR X (compareOp .NotIn) (op_dictR true) := by
  intro pins s σ H x y v u Q I rx ry h
  obtain ⟨a, o, rfl, gt, q⟩ := h
  obtain rfl : u = Value.ref a := ry
  exact d_notIn hu I gt rx fun s3 I3 => ⟨.bl (!o.isSome), H, I3, rfl, q⟩
def inStr [DecidableEq Str] [DecidableEq Key] [DecidableEq String] [(α : Type) → GetElem? (List α) Nat α fun l i => i < l.length] [(α : Type) → Append (List α)] [(i j : Int) → Decidable (i < j)] [(i j : Int) → Decidable (i ≤ j)] (x z : Str) : Bool := !(Builtin.Str.occurrences z x 0 z.length 1).isEmpty
def strIn [DecidableEq Str] [DecidableEq Key] [DecidableEq String] [(α : Type) → GetElem? (List α) Nat α fun l i => i < l.length] [(α : Type) → Append (List α)] [(i j : Int) → Decidable (i < j)] [(i j : Int) → Decidable (i ≤ j)] (x z : Str) : Bool := match x.cps.toList with
  | [c] => decide (c ∈ z.cps.toList)
  | _ => inStr x z
theorem strIn_ok {x z : Str} : (∃ r : R2, OpR X (compareOp .In) r ∧ ∀ Q : VK, Q (.bl (strIn x z)) H → r (.str x) (.str z) H Q) ∧ (∃ r : R2, OpR X (compareOp .NotIn) r ∧ ∀ Q : VK, Q (.bl (!strIn x z)) H → r (.str x) (.str z) H Q) := by
  unfold strIn
  split
  · rename_i c h
    obtain ⟨⟨l⟩⟩ := x
    have e : l = [c] := h
    subst e
    exact ⟨⟨_, op_in_sign, fun Q hq => ⟨c, z, rfl, rfl, hq⟩⟩, ⟨_, op_notIn_sign, fun Q hq => ⟨c, z, rfl, rfl, hq⟩⟩⟩
  · exact ⟨⟨_, op_in_str, fun Q hq => ⟨_, z, rfl, rfl, hq⟩⟩, ⟨_, L2.op_notIn_str, fun Q hq => ⟨_, z, rfl, rfl, hq⟩⟩⟩
/-- whether d is in e -/
def inOf [DecidableEq Str] [DecidableEq Key] [DecidableEq String] [(α : Type) → GetElem? (List α) Nat α fun l i => i < l.length] [(α : Type) → Append (List α)] [(i j : Int) → Decidable (i < j)] [(i j : Int) → Decidable (i ≤ j)] (g : Pg) (M : Store) (d e : D) : Option Bool := match e with
  | .str z => (match d with
    | .str x => some (strIn x z)
    | _ => none)
  | .tup _ => (match toPy 30 M d, toPy 31 M e with
    | some x, some (.tuple ys) => some (ys.any fun z => PyData.eqv z x)
    | _, _ => none)
  | .kt _ => (match toPy 30 M d, toPy 31 M e with
    | some x, some (.tuple ys) => some (ys.any fun z => PyData.eqv z x)
    | _, _ => none)
  | .ref r => (match lstRd M r with
    | some _ => (match toPy 30 M d, toPy 31 M e with
      | some x, some (.list ys) => some (ys.any fun z => PyData.eqv z x)
      | _, _ => none)
    | none => (dget M r d).map Option.isSome)
  | .gl t => (match g.tab.lookup t with
    | some kvs => (match d with
      | .str z => some (kvs.lookup z).isSome
      | _ => none)
    | none => none)
  | _ => none
def inD [DecidableEq Str] [DecidableEq Key] [DecidableEq String] [(α : Type) → GetElem? (List α) Nat α fun l i => i < l.length] [(α : Type) → Append (List α)] [(i j : Int) → Decidable (i < j)] [(i j : Int) → Decidable (i ≤ j)] (g : Pg) (d e : D) (M : Store) : R D := match inOf g M d e with
  | some b => ret (.bl b) M
  | none => .no
def notInD [DecidableEq Str] [DecidableEq Key] [DecidableEq String] [(α : Type) → GetElem? (List α) Nat α fun l i => i < l.length] [(α : Type) → Append (List α)] [(i j : Int) → Decidable (i < j)] [(i j : Int) → Decidable (i ≤ j)] (g : Pg) (d e : D) (M : Store) : R D := match inOf g M d e with
  | some b => ret (.bl (!b)) M
  | none => .no
theorem one_sign (c : Nat) : (⟨⟨[c]⟩⟩ : Str) = ⟨#[c]⟩ := rfl
theorem inOf_ok (F : Facts X g) (hu : X.A.units + 65 < cLine) {x y : V} {d e : D} {b : Bool} (rm : RepM (pw X) ι H M) (hx : Rep (pw X) ι H x d) (hy : Rep (pw X) ι H y e) (q : inOf g M d e = some b) :
    (∃ r : R2, OpR X (compareOp .In) r ∧ ∀ Q : VK, Q (.bl b) H → r x y H Q) ∧ (∃ r : R2, OpR X (compareOp .NotIn) r ∧ ∀ Q : VK, Q (.bl (!b)) H → r x y H Q) := by
  have tup : ∀ {y : V} {e : D} {x' : PyData} {ys : List PyData}, Rep (pw X) ι H y e → toPy 30 M d = some x' → toPy 31 M e = some (.tuple ys) → (ys.any fun z => PyData.eqv z x') = b →
      (∃ r : R2, OpR X (compareOp .In) r ∧ ∀ Q : VK, Q (.bl b) H → r x y H Q) ∧ (∃ r : R2, OpR X (compareOp .NotIn) r ∧ ∀ Q : VK, Q (.bl (!b)) H → r x y H Q) := fun {y e x' ys} hy e1 e2 e3 => by
    obtain ⟨a1, a2⟩ := toPy_shaped (by decide) rm hx e1
    obtain ⟨b1, b2⟩ := toPy_shaped (by decide) rm hy e2
    exact ⟨⟨_, op_inT hu, fun Q hq => ⟨x', ys, a1, b1, a2, b2, by rw [e3]; exact hq⟩⟩, ⟨_, op_notInT hu, fun Q hq => ⟨x', ys, a1, b1, a2, b2, by rw [e3]; exact hq⟩⟩⟩
  cases hy with
  | str z =>
    cases hx with
    | str x =>
      have q2 : some (strIn x z) = some b := q
      cases q2
      exact strIn_ok
    | _ => cases q
  | tup h l =>
    have q2 : (match toPy 30 M d, toPy 31 M (.tup _) with | some x, some (.tuple ys) => some (ys.any fun z => PyData.eqv z x) | _, _ => none) = some b := q
    split at q2
    · rename_i e1 e2
      exact tup (.tup h l) e1 e2 (Option.some.inj q2)
    · cases q2
  | kt h l =>
    have q2 : (match toPy 30 M d, toPy 31 M (.kt _) with | some x, some (.tuple ys) => some (ys.any fun z => PyData.eqv z x) | _, _ => none) = some b := q
    split at q2
    · rename_i e1 e2
      exact tup (.kt h l) e1 e2 (Option.some.inj q2)
    · cases q2
  | @ref a r hr =>
    have q2 : (match lstRd M r with
      | some _ => (match toPy 30 M d, toPy 31 M (.ref r) with
        | some x, some (.list ys) => some (ys.any fun z => PyData.eqv z x)
        | _, _ => none)
      | none => (dget M r d).map Option.isSome) = some b := q
    split at q2
    · split at q2
      · rename_i x' ys e1 e2
        obtain ⟨a1, a2⟩ := toPy_shaped (by decide) rm hx e1
        obtain ⟨b1, b2⟩ := toPy_shaped (by decide) rm (.ref hr) e2
        have e3 := Option.some.inj q2
        exact ⟨⟨_, op_inD hu, fun Q hq => ⟨x', ys, a1, b1, a2, b2, by rw [e3]; exact hq⟩⟩, ⟨_, op_notInD hu, fun Q hq => ⟨x', ys, a1, b1, a2, b2, by rw [e3]; exact hq⟩⟩⟩
      · cases q2
    · obtain ⟨o, e1, e2⟩ := Option.map_eq_some_iff.mp q2
      obtain ⟨a', ov, ea, gt, es, _⟩ := dget_ok rm (.ref hr) hx e1
      have eb : ov.isSome = b := es.trans e2
      exact ⟨⟨_, op_inDict (by omega), fun Q hq => ⟨a', ov, ea, gt, by show Q (.bl ov.isSome) H; rw [eb]; exact hq⟩⟩, ⟨_, op_notInDict (by omega), fun Q hq => ⟨a', ov, ea, gt, by show Q (.bl (!ov.isSome)) H; rw [eb]; exact hq⟩⟩⟩
  | @gl t u _ hm rv =>
    unfold inOf at q
    dsimp only at q
    cases e1 : g.tab.lookup t with
    | none => rw [e1] at q; cases q
    | some kvs =>
      rw [e1] at q
      dsimp only at q
      obtain ⟨a, es, n, em, kd, hz⟩ := F.tab t kvs e1
      cases hx with
      | str z =>
      have eu : u = .ref a := Option.some.inj (hm.symm.trans em)
      subst eu
      have ev : y = V.ref a := rv.inj (show RelV (.ref a) (.ref a) from rfl)
      subst ev
      cases q
      rcases hz z with ⟨d', u', v', e2, e3, _⟩ | ⟨e2, e3⟩
      · rw [e2]
        exact ⟨⟨_, op_in_kd kd, fun Q hq => ⟨z, some u', rfl, rfl, e3, hq⟩⟩, ⟨_, op_notIn_kd kd, fun Q hq => ⟨z, some u', rfl, rfl, e3, hq⟩⟩⟩
      · rw [e2]
        exact ⟨⟨_, op_in_kd kd, fun Q hq => ⟨z, none, rfl, rfl, e3, hq⟩⟩, ⟨_, op_notIn_kd kd, fun Q hq => ⟨z, none, rfl, rfl, e3, hq⟩⟩⟩
      | _ => cases q
  | _ => cases q
theorem o_in (F : Facts X g) (hu : X.A.units + 65 < cLine) : OpS X (compareOp .In) (inD g) := .of fun H x y Q ι M d e W rm hx hy q => by
  unfold inD at q
  cases h : inOf g M d e with
  | none => rw [h] at q; exact q.elim
  | some b =>
    rw [h] at q
    obtain ⟨⟨r, h1, h2⟩, _⟩ := inOf_ok F hu rm hx hy h
    exact ⟨r, h1, h2 Q (Post.ret q rm (.bl b))⟩
theorem o_notIn (F : Facts X g) (hu : X.A.units + 65 < cLine) : OpS X (compareOp .NotIn) (notInD g) := .of fun H x y Q ι M d e W rm hx hy q => by
  unfold notInD at q
  cases h : inOf g M d e with
  | none => rw [h] at q; exact q.elim
  | some b =>
    rw [h] at q
    obtain ⟨_, ⟨r, h1, h2⟩⟩ := inOf_ok F hu rm hx hy h
    exact ⟨r, h1, h2 Q (Post.ret q rm (.bl _))⟩

/-! ### a[k], a dict's too -/
def rIxDict [DecidableEq Str] [DecidableEq Key] [DecidableEq String] [(α : Type) → GetElem? (List α) Nat α fun l i => i < l.length] [(α : Type) → Append (List α)] [(i j : Int) → Decidable (i < j)] [(i j : Int) → Decidable (i ≤ j)] : R2 := fun x y H Q => ∃ a v, x = .ref a ∧ DGet H a y (some v) ∧ Q v H
theorem ix_dict (hu : X.A.units + 1 < cLine) : IxR X rIxDict := by
  intro value slice pins s σ H x y v u Q I rx ry h hs
  obtain ⟨a, w', rfl, gt, q⟩ := h
  obtain rfl : v = Value.ref a := rx
  exact tail_any (dict_typeIs I gt) slot_dict_getitem.lookup (d_getItem hu I gt ry fun w2 s3 I3 rw' => ⟨w', H, I3, rw', q⟩) hs
/-- a list's, a tuple's, a text's place; a dict's key -/
def getD [DecidableEq Str] [DecidableEq Key] [DecidableEq String] [(α : Type) → GetElem? (List α) Nat α fun l i => i < l.length] [(α : Type) → Append (List α)] [(i j : Int) → Decidable (i < j)] [(i j : Int) → Decidable (i ≤ j)] (g : Pg) (d e : D) (M : Store) : R D := match d with
  | .ref r => (match lstRd M r with
    | some _ => itemD d e M
    | none => (match dget M r e with
      | some (some v) => ret v M
      | _ => .no))
  | .gl t => (match g.tab.lookup t with
    | some kvs => (match e with
      | .str z => (match kvs.lookup z with
        | some v => ret v M
        | none => .no)
      | _ => .no)
    | none => .no)
  | _ => itemD d e M
theorem q_get (F : Facts X g) (hu : X.A.units + 1 < cLine) (ha : PE X a (rE X W da)) (hb : PE X b (rE X W db)) (hs : PlainIx b) : PE X (.Subscript a b pos) (rE X W (binD (getD g) da db)) :=
  (pe_ix (ix_seq.or ((ix_dict hu).or ix_kdict)) ha hb hs).imp fun σ H Q h => by
    obtain ⟨ι, ρ, M, rm, re, q⟩ := two_of h
    refine ⟨ι, ρ, M, rm, re, q.imp fun x H1 ⟨ι1, ρ1, M1, rm1, re1, q1⟩ => ⟨ι1, ρ1, M1, rm1, re1, q1.imp fun y H2 ⟨ι2, M2, d, e, rm2, rx, ry, q2⟩ => ?_⟩⟩
    have item : Post (pw X) ι2 H2 (Rep (pw X)) Q (WE W σ) (itemD d e M2) → rIx X.K x y H2 Q := fun q2 => by
      unfold itemD at q2
      simp only [atJ_eq] at q2
      cases ry with
      | int i =>
        cases rx with
        | @tup a vs ds h l =>
          dsimp only at q2
          cases e1 : atI ds i with
          | none => rw [e1] at q2; exact q2.elim
          | some v =>
            rw [e1] at q2
            obtain ⟨u, e2, r⟩ := atI_rep l e1
            exact .inr (.inl ⟨a, vs, i, u, rfl, rfl, SqT.of h, e2, Post.ret q2 rm2 r⟩)
        | @kt a vs ds h l =>
          dsimp only at q2
          cases e1 : atI ds i with
          | none => rw [e1] at q2; exact q2.elim
          | some v =>
            rw [e1] at q2
            obtain ⟨u, e2, r⟩ := atI_rep l e1
            exact .inr (.inl ⟨a, vs, i, u, rfl, rfl, h.sq, e2, Post.ret q2 rm2 r⟩)
        | @ref a j hj =>
          dsimp only at q2
          cases e0 : lstRd M2 j with
          | none => rw [e0] at q2; exact q2.elim
          | some ds =>
            rw [e0] at q2
            dsimp only at q2
            obtain ⟨a1, vs, e3, hq, l⟩ := lstRd_at rm2 (.ref hj) e0
            cases e3
            cases e1 : atI ds i with
            | none => rw [e1] at q2; exact q2.elim
            | some v =>
              rw [e1] at q2
              obtain ⟨u, e2, r⟩ := atI_rep l e1
              exact .inl ⟨a, vs, i, u, rfl, rfl, hq _, e2, Post.ret q2 rm2 r⟩
        | str z =>
          dsimp only at q2
          split at q2
          · rename_i hl
            cases e1 : atI z.cps.toList i with
            | none => rw [e1] at q2; exact q2.elim
            | some c =>
              rw [e1] at q2
              exact .inr (.inr ⟨z, i, c, rfl, rfl, hl, e1, Post.ret q2 rm2 (.str _)⟩)
          · exact q2.elim
        | _ => exact q2.elim
      | _ => exact q2.elim
    unfold getD at q2
    split at q2
    · rename_i r
      split at q2
      · exact .inl (item q2)
      · split at q2
        · rename_i v e1
          obtain ⟨a', ov, ea, gt, _, hd⟩ := dget_ok rm2 rx ry e1
          obtain ⟨w', e2, r2⟩ := hd v rfl
          subst e2
          exact .inr (.inl ⟨a', w', ea, gt, Post.ret q2 rm2 r2⟩)
        · exact q2.elim
    · rename_i t
      cases e1 : g.tab.lookup t with
      | none => rw [e1] at q2; exact q2.elim
      | some kvs =>
        rw [e1] at q2
        dsimp only at q2
        cases ry with
        | str z =>
          dsimp only at q2
          cases rx with
          | @gl _ u _ hm rv =>
          obtain ⟨a', es, n, em, kd, hz⟩ := F.tab t kvs e1
          have eu : u = .ref a' := Option.some.inj (hm.symm.trans em)
          subst eu
          have ev : x = V.ref a' := rv.inj (show RelV (.ref a') (.ref a') from rfl)
          subst ev
          rcases hz z with ⟨d', u', v', e2, e3, r1, r2⟩ | ⟨e2, e3⟩
          · rw [e2] at q2
            exact .inr (.inr ⟨a', z, v', rfl, rfl, ⟨es, n, u', kd.at_, kd.lit, e3, r1⟩, Post.ret q2 rm2 (r2 _ _)⟩)
          · rw [e2] at q2
            exact q2.elim
        | _ => exact q2.elim
    · exact .inl (item q2)
end
end Ev
set_option Elab.async false
set_option linter.all false
set_option maxRecDepth 100000
set_option maxHeartbeats 4000000
/-! Calls of built-ins. -/
namespace Ev
open PySem PySem.Spec PyProof.Rows L2
section
variable {X : Cx} {W : WX} {g : Pg} {a b c e : Expr} {es rest : List Expr} {da db dc : ED} {dr : AD} {pos : Pos} {pins : List (Addr × Obj)} {σ : L2.St} {H : Hp} {s : Shared} {ι : List Addr} {ρ : Env1} {M : Store}

theorem RepL.one {p : Pw} {xs : List V} {d : D} (l : RepL p ι H xs [d]) : ∃ v, xs = [v] ∧ Rep p ι H v d := by
  cases l with
  | cons h t => cases t; exact ⟨_, rfl, h⟩
theorem RepL.two {p : Pw} {xs : List V} {d e : D} (l : RepL p ι H xs [d, e]) : ∃ v w, xs = [v, w] ∧ Rep p ι H v d ∧ Rep p ι H w e := by
  cases l with
  | cons h t =>
    cases t with
    | cons h2 t => cases t; exact ⟨_, _, rfl, h, h2⟩
/-- a call of a known value is this on data -/
def CallS [DecidableEq Str] [DecidableEq Key] [DecidableEq String] [(α : Type) → GetElem? (List α) Nat α fun l i => i < l.length] [(α : Type) → Append (List α)] [(i j : Int) → Decidable (i < j)] [(i j : Int) → Decidable (i ≤ j)] (X : Cx) (f : Value) (g : List D → Store → R D) : Prop :=
  ∀ (pins : List (Addr × Obj)) (s : Shared) (σ : L2.St) (H : Hp) (xs : List V) (us : List Value) (Q : VK) (ι : List Addr) (M : Store) (ds : List D) (W : XK), Inv X pins σ H s → Vals xs us → RepM (pw X) ι H M → RepL (pw X) ι H xs ds →
    Post (pw X) ι H (Rep (pw X)) Q W (g ds M) → wpAny (model X.prog X.w) X.A (call f us) (EP X pins σ Q) X.xe s
theorem CallS.of {f : Value} {g : List D → Store → R D} (h : ∀ (H : Hp) (xs : List V) (Q : VK) (ι : List Addr) (M : Store) (ds : List D) (W : XK), RepM (pw X) ι H M → RepL (pw X) ι H xs ds → Post (pw X) ι H (Rep (pw X)) Q W (g ds M) →
    ∃ r, CallR X f r ∧ r xs H Q) : CallS X f g := fun pins s σ H xs us Q ι M ds W I r rm rl q => by
  obtain ⟨r', hr, hq⟩ := h H xs Q ι M ds W rm rl q
  exact hr pins s σ H xs us Q I r hq
def callD [DecidableEq Str] [DecidableEq Key] [DecidableEq String] [(α : Type) → GetElem? (List α) Nat α fun l i => i < l.length] [(α : Type) → Append (List α)] [(i j : Int) → Decidable (i < j)] [(i j : Int) → Decidable (i ≤ j)] (g : List D → Store → R D) (dr : AD) : ED := fun ρ M => (dr ρ M).bind g
theorem q_callB {id : String} {x : Str} {p : Pos} {f : List D → Store → R D} (hc : CallS X (.builtin id) f) (hg : Gl X x) (hm : X.mg x = none) (hv : bootBuiltins x = some (.builtin id)) (ha : PA X (e :: es) (rA X W dr)) (hn : x ≠ "__name__") (hdb : (x == ("__debug__" : Str)) = false)
    (he : starEach (e :: es) X.env = (false, eval e X.env) :: starEach es X.env) (hpl : (backTo pos (starEach es X.env)).any (·.1) = false) : PE X (.Call (.Name x p) (e :: es) [] pos) (rE X W (callD f dr)) := by
  refine ⟨fun pins s σ H Q I h => ?_⟩
  obtain ⟨ι, ρ, M, rm, re, q⟩ := h
  refine wpAny_Call_Name_kw (ld_blt I hg hm hv ?_ hn hdb)
  exact PyProof.Rows.callWith_builtin1 (thn (ha.run pos pins s σ H _ I ⟨ι, ρ, M, rm, re, Post.bind q⟩) fun us s1 ⟨vs, H1, I1, r1, ι1, ds, M1, m1, rm1, rl, q1⟩ => hc pins s1 σ H1 vs us Q ι1 M1 ds _ I1 r1 rm1 rl q1) he hpl
theorem q_callTy {T : String} {x : Str} {p : Pos} {f : List D → Store → R D} (hc : CallS X (.type T) f) (hg : Gl X x) (hm : X.mg x = none) (hv : bootBuiltins x = some (.type T)) (ha : PA X (e :: es) (rA X W dr)) (hn : x ≠ "__name__") (hdb : (x == ("__debug__" : Str)) = false)
    (he : starEach (e :: es) X.env = (false, eval e X.env) :: starEach es X.env) (hpl : (backTo pos (starEach es X.env)).any (·.1) = false) : PE X (.Call (.Name x p) (e :: es) [] pos) (rE X W (callD f dr)) := by
  refine ⟨fun pins s σ H Q I h => ?_⟩
  obtain ⟨ι, ρ, M, rm, re, q⟩ := h
  refine wpAny_Call_Name_kw (ld_blt I hg hm hv ?_ hn hdb)
  exact PyProof.Rows.callWith_type1 (thn (ha.run pos pins s σ H _ I ⟨ι, ρ, M, rm, re, Post.bind q⟩) fun us s1 ⟨vs, H1, I1, r1, ι1, ds, M1, m1, rm1, rl, q1⟩ => hc pins s1 σ H1 vs us Q ι1 M1 ds _ I1 r1 rm1 rl q1) he hpl

/-! ### len -/
def lenD [DecidableEq Str] [DecidableEq Key] [DecidableEq String] [(α : Type) → GetElem? (List α) Nat α fun l i => i < l.length] [(α : Type) → Append (List α)] [(i j : Int) → Decidable (i < j)] [(i j : Int) → Decidable (i ≤ j)] : List D → Store → R D
  | [.str z], M => if z.length ≤ sizeLine then ret (.int z.length) M else .no
  | [.tup xs], M => ret (.int xs.length) M
  | [.kt xs], M => ret (.int xs.length) M
  | [.ref r], M => (match M[r]? with
    | some (.lst xs) => ret (.int xs.length) M
    | some (.ro xs) => ret (.int xs.length) M
    | some (.dK kvs) => ret (.int kvs.length) M
    | _ => .no)
  | _, _ => .no
theorem k_len : CallS X (.builtin "len") lenD := .of fun H xs Q ι M ds W rm rl q => by
  unfold lenD at q
  split at q
  · obtain ⟨_, rfl, h⟩ := rl.one
    cases h
    split at q
    · rename_i hl
      exact ⟨_, call_len_str, _, rfl, hl, Post.ret q rm (.int _)⟩
    · exact q.elim
  · obtain ⟨_, rfl, h⟩ := rl.one
    cases h with
    | tup h l =>
    exact ⟨_, call_len_seq, _, _, rfl, .inr (SqT.of h), by rw [l.length]; exact Post.ret q rm (.int _)⟩
  · obtain ⟨_, rfl, h⟩ := rl.one
    cases h with
    | kt h l =>
    exact ⟨_, call_len_seq, _, _, rfl, .inr h.sq, by rw [l.length]; exact Post.ret q rm (.int _)⟩
  · obtain ⟨_, rfl, h⟩ := rl.one
    cases h with
    | ref hr =>
    rename_i r a
    cases e : M[r]? with
    | none => rw [e] at q; exact q.elim
    | some w =>
      have ro := rm.at_ r a w hr e
      rw [e] at q
      cases w with
      | lst xs =>
        obtain ⟨vs, hv, l⟩ := ro
        exact ⟨_, call_len_seq, _, _, rfl, .inl (SqL.of hv), by rw [l.length]; exact Post.ret q rm (.int _)⟩
      | ro xs =>
        obtain ⟨vs, o, hv, l, _⟩ := ro
        exact ⟨_, call_len_seq, _, _, rfl, .inl (.inl (.inr ⟨o, hv⟩)), by rw [l.length]; exact Post.ret q rm (.int _)⟩
      | dK kvs =>
        obtain ⟨vs, hv, l⟩ := ro
        exact ⟨_, call_lenD, _, _, rfl, hv, by rw [l.length]; exact Post.ret q rm (.int _)⟩
      | _ => exact q.elim
  · exact q.elim

/-! ### numbers -/
def absD [DecidableEq Str] [DecidableEq Key] [DecidableEq String] [(α : Type) → GetElem? (List α) Nat α fun l i => i < l.length] [(α : Type) → Append (List α)] [(i j : Int) → Decidable (i < j)] [(i j : Int) → Decidable (i ≤ j)] : List D → Store → R D
  | [.int i], M => ret (.int (if i < 0 then -i else i)) M
  | _, _ => .no
theorem k_abs : CallS X (.builtin "abs") absD := .of fun H xs Q ι M ds W rm rl q => by
  unfold absD at q
  split at q
  · obtain ⟨_, rfl, h⟩ := rl.one
    cases h
    exact ⟨_, call_abs, _, rfl, Post.ret q rm (.int _)⟩
  · exact q.elim
def intsOf [DecidableEq Str] [DecidableEq Key] [DecidableEq String] [(α : Type) → GetElem? (List α) Nat α fun l i => i < l.length] [(α : Type) → Append (List α)] [(i j : Int) → Decidable (i < j)] [(i j : Int) → Decidable (i ≤ j)] : List D → Option (List Int)
  | [] => some []
  | .int i :: r => (intsOf r).map (i :: ·)
  | _ :: _ => none
theorem intsOf_rep {p : Pw} : ∀ {vs : List V} {ds : List D} {ns : List Int}, RepL p ι H vs ds → intsOf ds = some ns → vs = ns.map V.int
  | _, _, ns, .nil, e => by cases e; rfl
  | _, d :: ds, ns, .cons r l, e => by
    cases r with
    | int i =>
      obtain ⟨ms, e1, e2⟩ := Option.map_eq_some_iff.mp e
      subst e2
      rw [intsOf_rep l e1] <;> rfl
    | _ => cases e
def maxL [DecidableEq Str] [DecidableEq Key] [DecidableEq String] [(α : Type) → GetElem? (List α) Nat α fun l i => i < l.length] [(α : Type) → Append (List α)] [(i j : Int) → Decidable (i < j)] [(i j : Int) → Decidable (i ≤ j)] : Int → List Int → Int
  | m, [] => m
  | m, x :: r => maxL (if x > m then x else m) r
theorem maxL_ge : ∀ (l : List Int) (m : Int), m ≤ maxL m l ∧ ∀ y ∈ l, y ≤ maxL m l
  | [], m => ⟨Int.le_refl m, fun y h => by cases h⟩
  | x :: r, m => by
    have h := maxL_ge r (if x > m then x else m)
    refine ⟨?_, fun y hy => ?_⟩
    · refine Int.le_trans ?_ h.1
      split <;> omega
    · rcases List.mem_cons.mp hy with rfl | hy
      · refine Int.le_trans ?_ h.1
        split <;> omega
      · exact h.2 y hy
theorem maxL_mem : ∀ (l : List Int) (m : Int), maxL m l = m ∨ maxL m l ∈ l
  | [], m => .inl rfl
  | x :: r, m => by
    rcases maxL_mem r (if x > m then x else m) with h | h
    · unfold maxL
      rw [h]
      split
      · exact .inr List.mem_cons_self
      · exact .inl rfl
    · exact .inr (List.mem_cons_of_mem _ h)
def maxD [DecidableEq Str] [DecidableEq Key] [DecidableEq String] [(α : Type) → GetElem? (List α) Nat α fun l i => i < l.length] [(α : Type) → Append (List α)] [(i j : Int) → Decidable (i < j)] [(i j : Int) → Decidable (i ≤ j)] : List D → Store → R D
  | [.int i, .int j], M => ret (.int (if j > i then j else i)) M
  | [.ref r], M => (match lstRd M r with
    | some xs => (match intsOf xs with
      | some (n :: ns) => ret (.int (maxL n ns)) M
      | _ => .no)
    | none => .no)
  | _, _ => .no
theorem k_max (hc : X.calm = true) : CallS X (.builtin "max") maxD := .of fun H xs Q ι M ds W rm rl q => by
  unfold maxD at q
  split at q
  · obtain ⟨_, _, rfl, h, h2⟩ := rl.two
    cases h
    cases h2
    exact ⟨_, call_max2 hc, _, _, rfl, Post.ret q rm (.int _)⟩
  · rename_i r
    obtain ⟨_, rfl, h⟩ := rl.one
    split at q
    · rename_i xs e1
      split at q
      · rename_i n ns e2
        obtain ⟨a, vs, rfl, hq, l⟩ := lstRd_at rm h e1
        have ev := intsOf_rep l e2
        subst ev
        refine ⟨_, cr_max hc, a, n :: ns, rfl, hq _, Nat.succ_pos _, fun m hm hmax => ?_⟩
        have e3 : m = maxL n ns := by
          have h1 := maxL_ge ns n
          have h2 : m ≤ maxL n ns := by
            rcases List.mem_cons.mp hm with rfl | hm
            · exact h1.1
            · exact h1.2 m hm
          have h3 : maxL n ns ≤ m := by
            rcases maxL_mem ns n with h | h
            · rw [h]; exact hmax n List.mem_cons_self
            · exact hmax _ (List.mem_cons_of_mem _ h)
          omega
        rw [e3]
        exact Post.ret q rm (.int _)
      · exact q.elim
    · exact q.elim
  · exact q.elim
def minD [DecidableEq Str] [DecidableEq Key] [DecidableEq String] [(α : Type) → GetElem? (List α) Nat α fun l i => i < l.length] [(α : Type) → Append (List α)] [(i j : Int) → Decidable (i < j)] [(i j : Int) → Decidable (i ≤ j)] : List D → Store → R D
  | [.int i, .int j], M => ret (.int (if j < i then j else i)) M
  | _, _ => .no
theorem k_min (hc : X.calm = true) : CallS X (.builtin "min") minD := .of fun H xs Q ι M ds W rm rl q => by
  unfold minD at q
  split at q
  · obtain ⟨_, _, rfl, h, h2⟩ := rl.two
    cases h
    cases h2
    exact ⟨_, call_min2 hc, _, _, rfl, Post.ret q rm (.int _)⟩
  · exact q.elim
def sumD [DecidableEq Str] [DecidableEq Key] [DecidableEq String] [(α : Type) → GetElem? (List α) Nat α fun l i => i < l.length] [(α : Type) → Append (List α)] [(i j : Int) → Decidable (i < j)] [(i j : Int) → Decidable (i ≤ j)] : List D → Store → R D
  | [.ref r], M => (match lstRd M r with
    | some xs => (match intsOf xs with
      | some ns => ret (.int ns.sum) M
      | _ => .no)
    | none => .no)
  | _, _ => .no
theorem k_sum (hc : X.calm = true) : CallS X (.builtin "sum") sumD := .of fun H xs Q ι M ds W rm rl q => by
  unfold sumD at q
  split at q
  · obtain ⟨_, rfl, h⟩ := rl.one
    split at q
    · rename_i xs e1
      split at q
      · rename_i ns e2
        obtain ⟨a, vs, rfl, hq, l⟩ := lstRd_at rm h e1
        have ev := intsOf_rep l e2
        subst ev
        exact ⟨_, cr_sum hc, a, ns, rfl, hq _, Post.ret q rm (.int _)⟩
      · exact q.elim
    · exact q.elim
  · exact q.elim
def divmodD [DecidableEq Str] [DecidableEq Key] [DecidableEq String] [(α : Type) → GetElem? (List α) Nat α fun l i => i < l.length] [(α : Type) → Append (List α)] [(i j : Int) → Decidable (i < j)] [(i j : Int) → Decidable (i ≤ j)] : List D → Store → R D
  | [.int i, .int j], M => if 0 < j ∧ j < 1073741824 then ret (.tup [.int (i / j), .int (i % j)]) M else .no
  | _, _ => .no
theorem k_divmod : CallS X (.builtin "divmod") divmodD := .of fun H xs Q ι M ds W rm rl q => by
  unfold divmodD at q
  split at q
  · obtain ⟨_, _, rfl, h, h2⟩ := rl.two
    cases h
    cases h2
    split at q
    · rename_i hj
      refine ⟨_, call_divmod, _, _, rfl, hj, fun p hp => ?_⟩
      obtain ⟨rm2, m2⟩ := rm.upd_new (u := .tup [.int _, .int _]) hp
      exact q ι _ _ m2 rm2 (.tup upd_same (.cons (.int _) (.cons (.int _) .nil)))
    · exact q.elim
  · exact q.elim
def intD [DecidableEq Str] [DecidableEq Key] [DecidableEq String] [(α : Type) → GetElem? (List α) Nat α fun l i => i < l.length] [(α : Type) → Append (List α)] [(i j : Int) → Decidable (i < j)] [(i j : Int) → Decidable (i ≤ j)] : List D → Store → R D
  | [.int i], M => ret (.int i) M
  | [.bl b], M => ret (.int (if b then 1 else 0)) M
  | _, _ => .no
theorem k_int : CallS X (.type "int") intD := .of fun H xs Q ι M ds W rm rl q => by
  unfold intD at q
  split at q
  · obtain ⟨_, rfl, h⟩ := rl.one
    cases h
    exact ⟨_, call_int1, .inl ⟨_, rfl, Post.ret q rm (.int _)⟩⟩
  · obtain ⟨_, rfl, h⟩ := rl.one
    cases h
    exact ⟨_, call_int1, .inr ⟨_, rfl, Post.ret q rm (.int _)⟩⟩
  · exact q.elim
def strD [DecidableEq Str] [DecidableEq Key] [DecidableEq String] [(α : Type) → GetElem? (List α) Nat α fun l i => i < l.length] [(α : Type) → Append (List α)] [(i j : Int) → Decidable (i < j)] [(i j : Int) → Decidable (i ≤ j)] : List D → Store → R D
  | [.int i], M => if i.natAbs < 2 ^ 1900 then ret (.str (toString i)) M else .no
  | [.str z], M => ret (.str z) M
  | _, _ => .no
theorem log2_small {n : Nat} (h : n < 2 ^ 1900) : n.log2 < 1920 := by
  by_cases hn : n = 0
  · subst hn
    decide
  · have := (Nat.log2_lt hn).mpr h
    omega
theorem k_str : CallS X (.type "str") strD := .of fun H xs Q ι M ds W rm rl q => by
  unfold strD at q
  split at q
  · obtain ⟨_, rfl, h⟩ := rl.one
    cases h
    split at q
    · rename_i hl
      exact ⟨_, call_str_int, _, rfl, log2_small hl, Post.ret q rm (.str _)⟩
    · exact q.elim
  · obtain ⟨_, rfl, h⟩ := rl.one
    cases h
    exact ⟨_, SkE.call_str_str, _, rfl, Post.ret q rm (.str _)⟩
  · exact q.elim

/-! ### list, tuple, dict of something -/
def listD [DecidableEq Str] [DecidableEq Key] [DecidableEq String] [(α : Type) → GetElem? (List α) Nat α fun l i => i < l.length] [(α : Type) → Append (List α)] [(i j : Int) → Decidable (i < j)] [(i j : Int) → Decidable (i ≤ j)] : List D → Store → R D
  | [.tup xs], M => mkLst xs M
  | [.kt xs], M => mkLst xs M
  | [.ref r], M => (match M[r]? with
    | some (.lst xs) => mkLst xs M
    | some (.ro xs) => mkLst xs M
    | some (.dK kvs) => mkLst (kvs.map fun kv => match kv.1 with | .inl i => D.int i | .inr x => D.str x) M
    | _ => .no)
  | _, _ => .no
theorem keys_rep {p : Pw} {α : Type} : ∀ (ks : List (Key × α)), RepL p ι H (ks.map fun kv => kV kv.1) (ks.map fun kv => match kv.1 with | .inl i => D.int i | .inr x => D.str x)
  | [] => .nil
  | (.inl i, _) :: ks => .cons (.int i) (keys_rep ks)
  | (.inr x, _) :: ks => .cons (.str x) (keys_rep ks)
theorem map_keys {α β : Type} {f : Key → β} {γ : Type} {l : List (Key × α)} {l2 : List (Key × γ)} (h : l.map (·.1) = l2.map (·.1)) : l.map (fun kv => f kv.1) = l2.map (fun kv => f kv.1) := by
  have e : ∀ {δ : Type} (l : List (Key × δ)), l.map (fun kv => f kv.1) = (l.map (·.1)).map f := fun l => by rw [List.map_map] <;> rfl
  rw [e, e, h]
theorem k_list (hc : X.calm = true) : CallS X (.type "list") listD := .of fun H xs Q ι M ds W rm rl q => by
  unfold listD at q
  split at q
  · obtain ⟨_, rfl, h⟩ := rl.one
    cases h with
    | tup h l =>
    obtain ⟨_, k⟩ := mkLst_post rm l q
    exact ⟨_, call_list_of, _, _, rfl, .inr (SqT.of h), k⟩
  · obtain ⟨_, rfl, h⟩ := rl.one
    cases h with
    | kt h l =>
    obtain ⟨_, k⟩ := mkLst_post rm l q
    exact ⟨_, call_list_of, _, _, rfl, .inr h.sq, k⟩
  · obtain ⟨_, rfl, h⟩ := rl.one
    cases h with
    | ref hr =>
    rename_i r a
    cases e : M[r]? with
    | none => rw [e] at q; exact q.elim
    | some w =>
      have ro := rm.at_ r a w hr e
      rw [e] at q
      cases w with
      | lst xs =>
        obtain ⟨vs, hv, l⟩ := ro
        obtain ⟨_, k⟩ := mkLst_post rm l q
        exact ⟨_, call_list_of, _, _, rfl, .inl (SqL.of hv), k⟩
      | ro xs =>
        obtain ⟨vs, o, hv, l, _⟩ := ro
        obtain ⟨_, k⟩ := mkLst_post rm l q
        exact ⟨_, call_list_of, _, _, rfl, .inl (.inl (.inr ⟨o, hv⟩)), k⟩
      | dK kvs =>
        obtain ⟨vs, hv, l⟩ := ro
        obtain ⟨_, k⟩ := mkLst_post rm (keys_rep kvs) q
        refine ⟨_, call_listD hc, a, vs, rfl, .inl hv, fun p hp => ?_⟩
        have e2 : (vs.map fun kv => kV kv.1) = kvs.map fun kv => kV kv.1 := map_keys l.keys
        rw [e2]
        exact k p hp
      | _ => exact q.elim
  · exact q.elim
def tupleD [DecidableEq Str] [DecidableEq Key] [DecidableEq String] [(α : Type) → GetElem? (List α) Nat α fun l i => i < l.length] [(α : Type) → Append (List α)] [(i j : Int) → Decidable (i < j)] [(i j : Int) → Decidable (i ≤ j)] : List D → Store → R D
  | [.tup xs], M => ret (.tup xs) M
  | [.ref r], M => (match lstRd M r with
    | some xs => ret (.tup xs) M
    | none => .no)
  | _, _ => .no
theorem k_tuple : CallS X (.type "tuple") tupleD := .of fun H xs Q ι M ds W rm rl q => by
  unfold tupleD at q
  split at q
  · obtain ⟨_, rfl, h⟩ := rl.one
    cases h with
    | tup h l =>
    exact ⟨_, call_tuple_of, _, _, rfl, .inr ⟨SqT.of h, Post.ret q rm (.tup h l)⟩⟩
  · obtain ⟨_, rfl, h⟩ := rl.one
    split at q
    · rename_i xs e1
      obtain ⟨a, vs, rfl, hq, l⟩ := lstRd_at rm h e1
      refine ⟨_, call_tuple_of, a, vs, rfl, .inl ⟨hq _, fun p hp => ?_⟩⟩
      obtain ⟨rm2, m2⟩ := rm.upd_new (u := .tup vs) hp
      exact q ι _ _ m2 rm2 (.tup upd_same (l.mono m2))
    · exact q.elim
  · exact q.elim
/-- a new object of the store -/
theorem alloc_post {p : Pw} {u : HO} {o : MO} {Q : VK} {W : XK} (rm : RepM p ι H M) (q : Post p ι H (Rep p) Q W (.ok (.ref M.length) (M ++ [o]))) (h : ∀ a, H a = none → RepO p (ι ++ [a]) (upd H a u) a o) : ∀ a, H a = none → Q (.ref a) (upd H a u) := fun a ha => by
  obtain ⟨rm2, m2, hi⟩ := rm.alloc (u := u) (o := o) ha (h a ha)
  exact q _ _ _ m2 rm2 (.ref hi)
theorem mono_new {u : HO} {a : Addr} (ha : H a = none) : Mono ι H (ι ++ [a]) (upd H a u) := .new ha
def dictD [DecidableEq Str] [DecidableEq Key] [DecidableEq String] [(α : Type) → GetElem? (List α) Nat α fun l i => i < l.length] [(α : Type) → Append (List α)] [(i j : Int) → Decidable (i < j)] [(i j : Int) → Decidable (i ≤ j)] : List D → Store → R D
  | [.ref r], M => (match M[r]? with
    | some (.dK kvs) => .ok (.ref M.length) (M ++ [.dK kvs])
    | _ => .no)
  | _, _ => .no
theorem k_dict : CallS X (.type "dict") dictD := .of fun H xs Q ι M ds W rm rl q => by
  unfold dictD at q
  split at q
  · obtain ⟨_, rfl, h⟩ := rl.one
    cases h with
    | ref hr =>
    rename_i r a
    cases e : M[r]? with
    | none => rw [e] at q; exact q.elim
    | some w =>
      have ro := rm.at_ r a w hr e
      rw [e] at q
      cases w with
      | dK kvs =>
        obtain ⟨vs, hv, l⟩ := ro
        exact ⟨_, call_dictD, a, vs, rfl, .inl hv, alloc_post rm q fun b hb => ⟨vs, upd_same, l.mono (mono_new hb)⟩⟩
      | _ => exact q.elim
  · exact q.elim

/-! ### isinstance -/
def tagOf [DecidableEq Str] [DecidableEq Key] [DecidableEq String] [(α : Type) → GetElem? (List α) Nat α fun l i => i < l.length] [(α : Type) → Append (List α)] [(i j : Int) → Decidable (i < j)] [(i j : Int) → Decidable (i ≤ j)] (g : Pg) (M : Store) : D → Option Tg
  | .non => some (.ty "NoneType")
  | .bl _ => some (.ty "bool")
  | .int _ => some (.ty "int")
  | .str _ => some (.ty "str")
  | .tup _ => some (.ty "tuple")
  | .kt _ => some (.ty "tuple")
  | .ref r => (match M[r]? with
    | some (.lst _) => some (.ty "list")
    | some (.ro _) => some (.ty "list")
    | some (.dK _) => some (.ty "dict")
    | some (.dT _) => some (.ty "dict")
    | some (.lkK _) => some (.ty "dict")
    | some (.ins c _) => if (g.cls.lookup c).isSome = true then some (.own c) else none
    | _ => none)
  | _ => none
def tagC [DecidableEq Str] [DecidableEq Key] [DecidableEq String] [(α : Type) → GetElem? (List α) Nat α fun l i => i < l.length] [(α : Type) → Append (List α)] [(i j : Int) → Decidable (i < j)] [(i j : Int) → Decidable (i ≤ j)] (g : Pg) : D → Option Tg
  | .ty n => if n ∈ tgNames then some (.ty n) else none
  | .gl c => if (g.cls.lookup c).isSome = true then some (.own c) else none
  | _ => none
def isiD [DecidableEq Str] [DecidableEq Key] [DecidableEq String] [(α : Type) → GetElem? (List α) Nat α fun l i => i < l.length] [(α : Type) → Append (List α)] [(i j : Int) → Decidable (i < j)] [(i j : Int) → Decidable (i ≤ j)] (g : Pg) : List D → Store → R D
  | [d, c], M => (match tagOf g M d with
    | some t => (match tagC g c with
      | some c => ret (.bl (isiT t c)) M
      | none => .no)
    | none => .no)
  | _, _ => .no
theorem tagOf_ok (F : Facts X g) {x : V} {d : D} {t : Tg} (rm : RepM (pw X) ι H M) (rx : Rep (pw X) ι H x d) (e : tagOf g M d = some t) :
    TyX X.K H x (t.v X.K) ∧ (∀ n, t = .ty n → n ∈ tgNames) ∧ (∀ n, t = .own n → (g.cls.lookup n).isSome) := by
  have nm : ∀ {m : String}, m ∈ tgNames → t = .ty m → (∀ n, t = .ty n → n ∈ tgNames) ∧ (∀ n, t = .own n → (g.cls.lookup n).isSome) := fun {m} hm et =>
    ⟨fun n h => by rw [et] at h; cases h; exact hm, fun n h => by rw [et] at h; cases h⟩
  cases rx with
  | non => cases e; exact ⟨.base .non, nm (by decide) rfl⟩
  | bl b => cases e; exact ⟨.base (.bl b), nm (by decide) rfl⟩
  | int i => cases e; exact ⟨.base (.int i), nm (by decide) rfl⟩
  | str z => cases e; exact ⟨.base (.str z), nm (by decide) rfl⟩
  | tup h _ => cases e; exact ⟨.base (.tup h), nm (by decide) rfl⟩
  | kt h _ =>
    cases e
    obtain ⟨o, its, n, h1, h2, _⟩ := h
    exact ⟨.kTuple h1 h2, nm (by decide) rfl⟩
  | @ref a r hr =>
    cases em : M[r]? with
    | none => unfold tagOf at e; dsimp only at e; rw [em] at e; cases e
    | some w =>
      have ro := rm.at_ r a w hr em
      unfold tagOf at e
      dsimp only at e
      rw [em] at e
      cases w with
      | lst _ => cases e; obtain ⟨vs, hv, _⟩ := ro; exact ⟨.base (.lst hv), nm (by decide) rfl⟩
      | ro _ => cases e; obtain ⟨vs, o, hv, _⟩ := ro; exact ⟨.base (.frz hv), nm (by decide) rfl⟩
      | dK _ => cases e; obtain ⟨vs, hv, _⟩ := ro; exact ⟨.base (.dK hv), nm (by decide) rfl⟩
      | dT _ => cases e; obtain ⟨vs, hv, _⟩ := ro; exact ⟨.base (.dT hv), nm (by decide) rfl⟩
      | lkK _ => cases e; obtain ⟨vs, o, hv, _⟩ := ro; exact ⟨.fDict hv, nm (by decide) rfl⟩
      | lkT _ => cases e
      | pot _ => cases e
      | ins c fs =>
        obtain ⟨dx, vs, hv, _⟩ := ro
        dsimp only at e
        split at e
        · rename_i hc
          cases e
          obtain ⟨i, hi⟩ := Option.isSome_iff_exists.mp hc
          obtain ⟨_, cl, _, _, ha, hm⟩ := F.cls c i hi
          exact ⟨.base (.ins hv cl ha F.desc.1 F.desc.2 hm), ⟨fun n h => (by cases h), fun n h => (by cases h; exact hc)⟩⟩
        · cases e
  | gl _ _ => cases e
  | ty _ => cases e
theorem tagC_ok (F : Facts X g) {x : V} {d : D} {t : Tg} (rx : Rep (pw X) ι H x d) (e : tagC g d = some t) :
    ClsV x (t.v X.K) ∧ (∀ n, t = .ty n → n ∈ tgNames) ∧ (∀ n, t = .own n → (g.cls.lookup n).isSome) := by
  cases rx with
  | ty n =>
    have e2 : (if n ∈ tgNames then some (Tg.ty n) else none) = some t := e
    split at e2
    · rename_i hn
      cases e2
      exact ⟨.ty n, ⟨fun m h => (by cases h; exact hn), fun m h => (by cases h)⟩⟩
    · cases e2
  | @gl c u v hm rv =>
    have e2 : (if (g.cls.lookup c).isSome = true then some (Tg.own c) else none) = some t := e
    split at e2
    · rename_i hc
      cases e2
      obtain ⟨i, hi⟩ := Option.isSome_iff_exists.mp hc
      obtain ⟨h1, _⟩ := F.cls c i hi
      have eu : u = .ref (He.ga X.K c) := Option.some.inj (hm.symm.trans h1)
      subst eu
      have ev : x = V.ref (He.ga X.K c) := rv.inj (show RelV (.ref _) (.ref _) from rfl)
      subst ev
      exact ⟨.own _, ⟨fun m h => (by cases h), fun m h => (by cases h; exact hc)⟩⟩
    · cases e2
  | _ => cases e
theorem k_isi (F : Facts X g) : CallS X (.builtin "isinstance") (isiD g) := .of fun H xs Q ι M ds W rm rl q => by
  unfold isiD at q
  split at q
  · rename_i d c
    obtain ⟨_, _, rfl, h, h2⟩ := rl.two
    cases e1 : tagOf g M d with
    | none => rw [e1] at q; exact q.elim
    | some t =>
      rw [e1] at q
      dsimp only at q
      cases e2 : tagC g c with
      | none => rw [e2] at q; exact q.elim
      | some c' =>
        rw [e2] at q
        obtain ⟨t1, t2, t3⟩ := tagOf_ok F rm h e1
        obtain ⟨c1, c2, c3⟩ := tagC_ok F h2 e2
        exact ⟨_, call_isi, _, _, _, _, _, rfl, c1, t1, F.isi t c' t2 c2 t3 c3, Post.ret q rm (.bl _)⟩
  · exact q.elim

/-! ### all, any -/
def blsOf [DecidableEq Str] [DecidableEq Key] [DecidableEq String] [(α : Type) → GetElem? (List α) Nat α fun l i => i < l.length] [(α : Type) → Append (List α)] [(i j : Int) → Decidable (i < j)] [(i j : Int) → Decidable (i ≤ j)] : List D → Option (List Bool)
  | [] => some []
  | .bl i :: r => (blsOf r).map (i :: ·)
  | _ :: _ => none
theorem blsOf_rep {p : Pw} : ∀ {vs : List V} {ds : List D} {ns : List Bool}, RepL p ι H vs ds → blsOf ds = some ns → vs = ns.map V.bl
  | _, _, ns, .nil, e => by cases e; rfl
  | _, d :: ds, ns, .cons r l, e => by
    cases r with
    | bl i =>
      obtain ⟨ms, e1, e2⟩ := Option.map_eq_some_iff.mp e
      subst e2
      rw [blsOf_rep l e1] <;> rfl
    | _ => cases e
def quantD [DecidableEq Str] [DecidableEq Key] [DecidableEq String] [(α : Type) → GetElem? (List α) Nat α fun l i => i < l.length] [(α : Type) → Append (List α)] [(i j : Int) → Decidable (i < j)] [(i j : Int) → Decidable (i ≤ j)] (f : List Bool → Bool) : List D → Store → R D
  | [.ref r], M => (match lstRd M r with
    | some xs => (match blsOf xs with
      | some ns => ret (.bl (f ns)) M
      | _ => .no)
    | none => .no)
  | _, _ => .no
def allD [DecidableEq Str] [DecidableEq Key] [DecidableEq String] [(α : Type) → GetElem? (List α) Nat α fun l i => i < l.length] [(α : Type) → Append (List α)] [(i j : Int) → Decidable (i < j)] [(i j : Int) → Decidable (i ≤ j)] := quantD fun bs => bs.all id
def anyD [DecidableEq Str] [DecidableEq Key] [DecidableEq String] [(α : Type) → GetElem? (List α) Nat α fun l i => i < l.length] [(α : Type) → Append (List α)] [(i j : Int) → Decidable (i < j)] [(i j : Int) → Decidable (i ≤ j)] := quantD fun bs => bs.any id
theorem k_quant {id : String} {f : List Bool → Bool} (h : CallR X (.builtin id) (fun vs H Q => ∃ (a : Addr) (bs : List Bool), vs = [V.ref a] ∧ SqL X.K H a (bs.map V.bl) ∧ Q (.bl (f bs)) H)) : CallS X (.builtin id) (quantD f) := .of fun H xs Q ι M ds W rm rl q => by
  unfold quantD at q
  split at q
  · obtain ⟨_, rfl, hh⟩ := rl.one
    split at q
    · rename_i xs e1
      split at q
      · rename_i ns e2
        obtain ⟨a, vs, rfl, hq, l⟩ := lstRd_at rm hh e1
        have ev := blsOf_rep l e2
        subst ev
        exact ⟨_, h, a, ns, rfl, hq _, Post.ret q rm (.bl _)⟩
      · exact q.elim
    · exact q.elim
  · exact q.elim
theorem k_all (hc : X.calm = true) : CallS X (.builtin "all") allD := k_quant (cr_all hc)
theorem k_any (hc : X.calm = true) : CallS X (.builtin "any") anyD := k_quant (cr_any hc)
end
end Ev
set_option Elab.async false
set_option linter.all false
set_option maxRecDepth 100000
set_option maxHeartbeats 4000000
/-! Methods of built-in types, fields, f-strings. -/
namespace Ev
open PySem PySem.Spec PyProof.Rows L2
section
variable {X : Cx} {W : WX} {g : Pg} {a b c e o : Expr} {es rest : List Expr} {da db dc dd : ED} {dr : AD} {pos apos : Pos} {pins : List (Addr × Obj)} {σ : L2.St} {H : Hp} {s : Shared} {ι : List Addr} {ρ : Env1} {M : Store}

/-- a method of the built-in type T is this on data: the receiver, the arguments -/
def MtS [DecidableEq Str] [DecidableEq Key] [DecidableEq String] [(α : Type) → GetElem? (List α) Nat α fun l i => i < l.length] [(α : Type) → Append (List α)] [(i j : Int) → Decidable (i < j)] [(i j : Int) → Decidable (i ≤ j)] (X : Cx) (T id : String) (g : D → List D → Store → R D) : Prop :=
  ∀ (pins : List (Addr × Obj)) (s : Shared) (σ : L2.St) (H : Hp) (x : V) (xs : List V) (v : Value) (us : List Value) (Q : VK) (ι : List Addr) (M : Store) (d : D) (ds : List D) (W : XK), Inv X pins σ H s → RelV x v → Vals xs us → RepM (pw X) ι H M → Rep (pw X) ι H x d → RepL (pw X) ι H xs ds →
    Post (pw X) ι H (Rep (pw X)) Q W (g d ds M) → wpAny (model X.prog X.w) X.A (call (.builtin id) (v :: us)) (EP X pins σ Q) X.xe s
theorem MtS.of {T id : String} {g : D → List D → Store → R D} (h : ∀ (H : Hp) (x : V) (xs : List V) (Q : VK) (ι : List Addr) (M : Store) (d : D) (ds : List D) (W : XK), RepM (pw X) ι H M → Rep (pw X) ι H x d → RepL (pw X) ι H xs ds → Post (pw X) ι H (Rep (pw X)) Q W (g d ds M) →
    ∃ r, MtR X id r ∧ r x xs H Q) : MtS X T id g := fun pins s σ H x xs v us Q ι M d ds W I rx rxs rm hx hl q => by
  obtain ⟨r', hr, hq⟩ := h H x xs Q ι M d ds W rm hx hl q
  exact hr pins s σ H x xs v us Q I rx rxs hq
/-- what tells the type -/
def isTy [DecidableEq Str] [DecidableEq Key] [DecidableEq String] [(α : Type) → GetElem? (List α) Nat α fun l i => i < l.length] [(α : Type) → Append (List α)] [(i j : Int) → Decidable (i < j)] [(i j : Int) → Decidable (i ≤ j)] (T : String) (M : Store) : D → Bool
  | .str _ => T == "str"
  | .kt _ => T == "tuple"
  | .ref r => (match M[r]? with
    | some (.lst _) => T == "list"
    | some (.ro _) => T == "list"
    | some (.dK _) => T == "dict"
    | some (.dT _) => T == "dict"
    | _ => false)
  | _ => false
theorem isTy_ok {T : String} {x : V} {d : D} (rm : RepM (pw X) ι H M) (rx : Rep (pw X) ι H x d) (e : isTy T M d = true) : tyV X.K T x H := by
  cases rx with
  | str z => exact beq_iff_eq.mp e
  | kt h l =>
    obtain ⟨o, its, n, h1, h2, _, _, _, h6⟩ := h
    exact .inr (.inl ⟨beq_iff_eq.mp e, o, h1, h2, h6⟩)
  | @ref a r hr =>
    cases em : M[r]? with
    | none => unfold isTy at e; dsimp only at e; rw [em] at e; cases e
    | some w =>
      have ro := rm.at_ r a w hr em
      unfold isTy at e
      dsimp only at e
      rw [em] at e
      cases w with
      | lst _ => obtain ⟨vs, hv, _⟩ := ro; exact .inl ⟨beq_iff_eq.mp e, vs, SqL.of hv⟩
      | ro _ => obtain ⟨vs, o, hv, _⟩ := ro; exact .inl ⟨beq_iff_eq.mp e, vs, .inl (.inr ⟨o, hv⟩)⟩
      | dK _ => obtain ⟨vs, hv, _⟩ := ro; exact .inr (.inr (.inl ⟨beq_iff_eq.mp e, .inl ⟨vs, hv⟩⟩))
      | dT _ => obtain ⟨vs, hv, _⟩ := ro; exact .inr (.inr (.inl ⟨beq_iff_eq.mp e, .inr ⟨vs, hv⟩⟩))
      | _ => cases e
  | _ => cases e
def mtD [DecidableEq Str] [DecidableEq Key] [DecidableEq String] [(α : Type) → GetElem? (List α) Nat α fun l i => i < l.length] [(α : Type) → Append (List α)] [(i j : Int) → Decidable (i < j)] [(i j : Int) → Decidable (i ≤ j)] (T : String) (f : D → List D → Store → R D) (dd : ED) (dr : AD) : ED := fun ρ M => (dd ρ M).bind fun x M1 => if isTy T M1 x = true then (dr ρ M1).bind fun xs M2 => f x xs M2 else .no
theorem q_mt {T id : String} {name : Str} {f : D → List D → Store → R D} (pa : PlainAttrs T) (slot : Slot T name id) (hty : typeOf (.builtin id) = pure (.type "method_descriptor")) (hm : MtS X T id f) (ho : PE X o (rE X W dd)) (ha : PA X (e :: es) (rA X W dr))
    (hbase : attributeBase o name X.env (eval o X.env) = eval o X.env)
    (hfew : ((backTo pos (starEach (e :: es) X.env)).all (fun x => !x.1) && (backToKw pos (keywordEach [] X.env)).all (fun x => x.1.isSome)
      && decide ((e :: es).length + ([] : List Keyword).length + (if ([] : List Keyword).isEmpty then 0 else 1) < 30)) = true)
    (hline : (apos.endLine == pos.line) = true) (hs : starEach (e :: es) X.env = (false, eval e X.env) :: starEach es X.env) (hplain : (backTo pos (starEach es X.env)).any (·.1) = false) :
    PE X (.Call (.Attribute o name apos) (e :: es) [] pos) (rE X W (mtD T f dd dr)) := by
  have hr : MtR X id (fun x xs H Q => ∃ ι M d ds W, RepM (pw X) ι H M ∧ Rep (pw X) ι H x d ∧ RepL (pw X) ι H xs ds ∧ Post (pw X) ι H (Rep (pw X)) Q W (f d ds M)) :=
    fun pins s σ H x xs v us Q I rx rxs ⟨ι, M, d, ds, W, rm, hx, hl, q⟩ => hm pins s σ H x xs v us Q ι M d ds W I rx rxs rm hx hl q
  refine (pe_bm pa slot hty hr ho ha hbase hfew hline hs hplain).imp fun σ H Q ⟨ι, ρ, M, rm, re, q⟩ => ?_
  refine ⟨ι, ρ, M, rm, re, (Post.bind q).imp fun x H1 ⟨ι1, d, M1, m1, rm1, rx, q1⟩ => ?_⟩
  split at q1
  · rename_i ht
    refine ⟨isTy_ok rm1 rx ht, ι1, ρ, M1, rm1, re.mono m1, (Post.bind q1).imp fun xs H2 ⟨ι2, ds, M2, m2, rm2, rl, q2⟩ => ?_⟩
    exact ⟨ι2, M2, d, ds, _, rm2, rx.mono m2, rl, q2⟩
  · exact q1.elim
theorem q_mt0 {T id : String} {name : Str} {f : D → List D → Store → R D} (pa : PlainAttrs T) (slot : Slot T name id) (hty : typeOf (.builtin id) = pure (.type "method_descriptor")) (hm : MtS X T id f) (ho : PE X o (rE X W dd))
    (hbase : attributeBase o name X.env (eval o X.env) = eval o X.env) (hline : (apos.endLine == pos.line) = true) :
    PE X (.Call (.Attribute o name apos) [] [] pos) (rE X W (mtD T f dd dNil)) := by
  have hr : MtR X id (fun x xs H Q => ∃ ι M d ds W, RepM (pw X) ι H M ∧ Rep (pw X) ι H x d ∧ RepL (pw X) ι H xs ds ∧ Post (pw X) ι H (Rep (pw X)) Q W (f d ds M)) :=
    fun pins s σ H x xs v us Q I rx rxs ⟨ι, M, d, ds, W, rm, hx, hl, q⟩ => hm pins s σ H x xs v us Q ι M d ds W I rx rxs rm hx hl q
  refine (pe_bm0 pa slot hty hr ho hbase hline).imp fun σ H Q ⟨ι, ρ, M, rm, re, q⟩ => ?_
  refine ⟨ι, ρ, M, rm, re, (Post.bind q).imp fun x H1 ⟨ι1, d, M1, m1, rm1, rx, q1⟩ => ?_⟩
  split at q1
  · rename_i ht
    exact ⟨isTy_ok rm1 rx ht, ι1, M1, d, [], _, rm1, rx, .nil, q1⟩
  · exact q1.elim

/-! ### lists -/
def appendD [DecidableEq Str] [DecidableEq Key] [DecidableEq String] [(α : Type) → GetElem? (List α) Nat α fun l i => i < l.length] [(α : Type) → Append (List α)] [(i j : Int) → Decidable (i < j)] [(i j : Int) → Decidable (i ≤ j)] (d : D) (ds : List D) (M : Store) : R D := match d, ds with
  | .ref r, [y] => (match lstAt M r with
    | some xs => if xs.length < sizeLine then .ok .non (M.set r (.lst (xs ++ [y]))) else .no
    | none => .no)
  | _, _ => .no
/-- an object of the store is written -/
theorem set_post {p : Pw} {u w : HO} {a : Addr} {r : Nat} {o : MO} {Q : VK} {W : XK} {d : D} {v : V} (rm : RepM p ι H M) (hr : ι[r]? = some a) (hw : H a = some w) (hnt : ∀ xs, w ≠ .tup xs) (q : Post p ι H (Rep p) Q W (.ok d (M.set r o)))
    (h : ∀ (m : Mono ι H ι (upd H a u)), RepO p ι (upd H a u) a o) (hv : ∀ (m : Mono ι H ι (upd H a u)), Rep p ι (upd H a u) v d) (hnf : ∀ o v, w ≠ .frz o v := by intro _ _ z; cases z) : Q v (upd H a u) := by
  have m0 : Mono ι H ι (upd H a u) := .set (List.mem_of_getElem? hr) hw hnt hnf
  obtain ⟨rm2, m2⟩ := rm.upd_set hr hw hnt (h m0) hnf
  exact q _ _ _ m2 rm2 (hv m2)
theorem m_append : MtS X "list" "list.append" appendD := .of fun H x xs Q ι M d ds W rm hx hl q => by
  unfold appendD at q
  split at q
  · rename_i r y
    split at q
    · rename_i ys e1
      split at q
      · rename_i hz
        obtain ⟨v, rfl, hy⟩ := hl.one
        obtain ⟨a, vs, rfl, hi, hv, l⟩ := lstAt_at rm hx e1
        refine ⟨_, mt_append, a, vs, v, rfl, rfl, hv, by rw [l.length]; exact hz, ?_⟩
        exact set_post rm hi hv (fun _ z => nomatch z) q (fun m => ⟨_, upd_same, (l.append (.cons hy .nil)).mono m⟩) fun _ => .non
      · exact q.elim
    · exact q.elim
  · exact q.elim
def extendD [DecidableEq Str] [DecidableEq Key] [DecidableEq String] [(α : Type) → GetElem? (List α) Nat α fun l i => i < l.length] [(α : Type) → Append (List α)] [(i j : Int) → Decidable (i < j)] [(i j : Int) → Decidable (i ≤ j)] (d : D) (ds : List D) (M : Store) : R D := match d, ds with
  | .ref r, [.ref k] => (match lstAt M r, lstAt M k with
    | some xs, some ys => if xs.length + ys.length ≤ sizeLine then .ok .non (M.set r (.lst (xs ++ ys))) else .no
    | _, _ => .no)
  | _, _ => .no
theorem m_extend : MtS X "list" "list.extend" extendD := .of fun H x xs Q ι M d ds W rm hx hl q => by
  unfold extendD at q
  split at q
  · rename_i r k
    split at q
    · rename_i us ys e1 e2
      split at q
      · rename_i hz
        obtain ⟨v, rfl, hy⟩ := hl.one
        obtain ⟨a, vs, rfl, hi, hv, l⟩ := lstAt_at rm hx e1
        obtain ⟨b, ws, rfl, _, hw, l2⟩ := lstAt_at rm hy e2
        refine ⟨_, mt_extend, a, b, vs, ws, rfl, rfl, hv, hw, by rw [l.length, l2.length]; exact hz, ?_⟩
        exact set_post rm hi hv (fun _ z => nomatch z) q (fun m => ⟨_, upd_same, (l.append l2).mono m⟩) fun _ => .non
      · exact q.elim
    · exact q.elim
  · exact q.elim
/-- pop(), pop(i) -/
def popD [DecidableEq Str] [DecidableEq Key] [DecidableEq String] [(α : Type) → GetElem? (List α) Nat α fun l i => i < l.length] [(α : Type) → Append (List α)] [(i j : Int) → Decidable (i < j)] [(i j : Int) → Decidable (i ≤ j)] (d : D) (ds : List D) (M : Store) : R D := match d, ds with
  | .ref r, [] => (match lstAt M r with
    | some xs => (match xs[xs.length - 1]? with
      | some y => .ok y (M.set r (.lst xs.dropLast))
      | none => .no)
    | none => .no)
  | .ref r, [.int i] => (match lstAt M r with
    | some xs => (match (if -(2 ^ 63) ≤ i ∧ i < 2 ^ 63 then seqIndex? i xs.length else none) with
      | some k => (match xs[k]? with
        | some y => .ok y (M.set r (.lst (xs.eraseIdx k)))
        | none => .no)
      | none => .no)
    | none => .no)
  | _, _ => .no
theorem RepL.dropLast {p : Pw} : ∀ {vs : List V} {ds : List D}, RepL p ι H vs ds → RepL p ι H vs.dropLast ds.dropLast
  | _, _, .nil => .nil
  | _, _, .cons h .nil => .nil
  | _, _, .cons h (.cons h2 l) => .cons h (RepL.dropLast (.cons h2 l))
theorem RepL.eraseIdx {p : Pw} : ∀ {vs : List V} {ds : List D} (k : Nat), RepL p ι H vs ds → RepL p ι H (vs.eraseIdx k) (ds.eraseIdx k)
  | _, _, _, .nil => .nil
  | _, _, 0, .cons _ l => l
  | _, _, k + 1, .cons h l => .cons h (RepL.eraseIdx k l)
theorem m_pop : MtS X "list" "list.pop" popD := .of fun H x xs Q ι M d ds W rm hx hl q => by
  unfold popD at q
  split at q
  · rename_i r
    split at q
    · rename_i us e1
      split at q
      · rename_i y e2
        cases hl
        obtain ⟨a, vs, rfl, hi, hv, l⟩ := lstAt_at rm hx e1
        rw [← l.length] at e2
        obtain ⟨v, e3, hy⟩ := l.get e2
        refine ⟨_, mt_pop, a, vs, v, rfl, rfl, hv, e3, ?_⟩
        exact set_post rm hi hv (fun _ z => nomatch z) q (fun m => ⟨_, upd_same, l.dropLast.mono m⟩) fun m => hy.mono m
      · exact q.elim
    · exact q.elim
  · rename_i r i
    split at q
    · rename_i us e1
      split at q
      · rename_i k e2
        split at q
        · rename_i y e3
          split at e2
          · rename_i hb
            obtain ⟨v, rfl, hy⟩ := hl.one
            cases hy
            obtain ⟨a, vs, rfl, hi, hv, l⟩ := lstAt_at rm hx e1
            obtain ⟨w, e4, hw⟩ := l.get e3
            refine ⟨_, mt_popAt, a, vs, i, k, w, rfl, rfl, hv, hb.1, hb.2, by rw [l.length]; exact e2, e4, ?_⟩
            exact set_post rm hi hv (fun _ z => nomatch z) q (fun m => ⟨_, upd_same, (l.eraseIdx k).mono m⟩) fun m => hw.mono m
          · cases e2
        · exact q.elim
      · exact q.elim
    · exact q.elim
  · exact q.elim
/-! ### index of a written tuple of texts -/
def strsOf [DecidableEq Str] [DecidableEq Key] [DecidableEq String] [(α : Type) → GetElem? (List α) Nat α fun l i => i < l.length] [(α : Type) → Append (List α)] [(i j : Int) → Decidable (i < j)] [(i j : Int) → Decidable (i ≤ j)] : List D → Option (List Str)
  | [] => some []
  | .str i :: r => (strsOf r).map (i :: ·)
  | _ :: _ => none
theorem strsOf_rep {p : Pw} : ∀ {vs : List V} {ds : List D} {ns : List Str}, RepL p ι H vs ds → strsOf ds = some ns → vs = ns.map V.str
  | _, _, ns, .nil, e => by cases e; rfl
  | _, d :: ds, ns, .cons r l, e => by
    cases r with
    | str i =>
      obtain ⟨ms, e1, e2⟩ := Option.map_eq_some_iff.mp e
      subst e2
      rw [strsOf_rep l e1] <;> rfl
    | _ => cases e
def placeOf [DecidableEq Str] [DecidableEq Key] [DecidableEq String] [(α : Type) → GetElem? (List α) Nat α fun l i => i < l.length] [(α : Type) → Append (List α)] [(i j : Int) → Decidable (i < j)] [(i j : Int) → Decidable (i ≤ j)] (z : Str) : List Str → Nat → Option Nat
  | [], _ => none
  | y :: r, n => if y = z then some n else placeOf z r (n + 1)
theorem placeOf_ok {z : Str} : ∀ {l : List Str} {n j : Nat}, placeOf z l n = some j → ∃ k, j = n + k ∧ l[k]? = some z ∧ ∀ m, m < k → l[m]? ≠ some z
  | [], n, j, e => by cases e
  | y :: r, n, j, e => by
    unfold placeOf at e
    split at e
    · rename_i h
      cases e
      exact ⟨0, rfl, by rw [h] <;> rfl, fun m hm => absurd hm (Nat.not_lt_zero m)⟩
    · rename_i h
      obtain ⟨k, e1, e2, e3⟩ := placeOf_ok e
      refine ⟨k + 1, by omega, by simpa using e2, fun m hm => ?_⟩
      cases m with
      | zero => simpa using h
      | succ m => simpa using e3 m (by omega)
def tupIndexD [DecidableEq Str] [DecidableEq Key] [DecidableEq String] [(α : Type) → GetElem? (List α) Nat α fun l i => i < l.length] [(α : Type) → Append (List α)] [(i j : Int) → Decidable (i < j)] [(i j : Int) → Decidable (i ≤ j)] (d : D) (ds : List D) (M : Store) : R D := match d, ds with
  | .kt xs, [.str z] => (match strsOf xs with
    | some ys => (match placeOf z ys 0 with
      | some j => ret (.int j) M
      | none => .no)
    | none => .no)
  | _, _ => .no
theorem m_tupIndex : MtS X "tuple" "tuple.index" tupIndexD := .of fun H x xs Q ι M d ds W rm hx hl q => by
  unfold tupIndexD at q
  split at q
  · split at q
    · rename_i ys e1
      split at q
      · rename_i j e2
        obtain ⟨v, rfl, hy⟩ := hl.one
        cases hy
        cases hx with
        | kt h l =>
        have ev := strsOf_rep l e1
        subst ev
        obtain ⟨k, e3, e4, e5⟩ := placeOf_ok e2
        have e6 : j = k := by omega
        subst e6
        exact ⟨_, mt_tup_index, _, ys, _, j, rfl, rfl, h.sq, e4, e5, Post.ret q rm (.int _)⟩
      · exact q.elim
    · exact q.elim
  · exact q.elim
/-! ### join -/
def joinD [DecidableEq Str] [DecidableEq Key] [DecidableEq String] [(α : Type) → GetElem? (List α) Nat α fun l i => i < l.length] [(α : Type) → Append (List α)] [(i j : Int) → Decidable (i < j)] [(i j : Int) → Decidable (i ≤ j)] (d : D) (ds : List D) (M : Store) : R D := match d, ds with
  | .str z, [.ref r] => (match lstRd M r with
    | some xs => (match strsOf xs with
      | some ys => if (ys.map (·.length)).sum + ys.length * z.length ≤ 16777216 then ret (.str (Txt.join z ys)) M else .no
      | none => .no)
    | none => .no)
  | _, _ => .no
theorem m_join : MtS X "str" "str.join" joinD := .of fun H x xs Q ι M d ds W rm hx hl q => by
  unfold joinD at q
  split at q
  · split at q
    · rename_i us e1
      split at q
      · rename_i ys e2
        split at q
        · rename_i hz
          obtain ⟨v, rfl, hy⟩ := hl.one
          obtain ⟨a, vs, rfl, hq, l⟩ := lstRd_at rm hy e1
          cases hx
          have ev := strsOf_rep l e2
          subst ev
          exact ⟨_, mt_join, _, a, ys, rfl, rfl, .inl (hq _), hz, Post.ret q rm (.str _)⟩
        · exact q.elim
      · exact q.elim
    · exact q.elim
  · exact q.elim

/-! ### fields -/
/-- an instance's field -/
def fldD [DecidableEq Str] [DecidableEq Key] [DecidableEq String] [(α : Type) → GetElem? (List α) Nat α fun l i => i < l.length] [(α : Type) → Append (List α)] [(i j : Int) → Decidable (i < j)] [(i j : Int) → Decidable (i ≤ j)] (g : Pg) (f : Str) (d : D) (M : Store) : R D := match d with
  | .ref r => (match M[r]? with
    | some (.ins c fs) => (match g.cls.lookup c with
      | some i => if f ∈ i.fields then (match fs.lookup f with
        | some v => ret v M
        | none => .no) else .no
      | none => .no)
    | _ => .no)
  | _ => .no
theorem RepK.lookup {p : Pw} (f : Str) : ∀ {vs : List (Str × V)} {ds : Fs}, RepK p ι H vs ds → match ds.lookup f with
    | some d => ∃ v, vs.lookup f = some v ∧ Rep p ι H v d
    | none => vs.lookup f = none
  | _, _, .nil => rfl
  | (k, v) :: vs, (_, d) :: ds, .cons r l => by
    have ih := RepK.lookup f l
    simp only [List.lookup_cons]
    cases h : (f == k) with
    | true => exact ⟨v, rfl, r⟩
    | false => exact ih
theorem q_fld (F : Facts X g) {f : Str} (he : PE X a (rE X W da)) (hb : attributeBase a f X.env (eval a X.env) = eval a X.env) : PE X (.Attribute a f pos) (rE X W (unD (fldD g f) da)) :=
  (pe_fld he hb).imp fun σ H Q ⟨ι, ρ, M, rm, re, q⟩ => ⟨ι, ρ, M, rm, re, (Post.bind q).imp fun x H1 ⟨ι1, d, M1, m1, rm1, rx, q1⟩ => by
    unfold fldD at q1
    cases rx with
    | @ref a' r hr =>
      dsimp only at q1
      cases em : M1[r]? with
      | none => rw [em] at q1; exact q1.elim
      | some w =>
        have ro := rm1.at_ r a' w hr em
        rw [em] at q1
        cases w with
        | ins c fs =>
          dsimp only at q1
          obtain ⟨dx, vs, hv, l⟩ := ro
          split at q1
          · rename_i i hi
            split at q1
            · rename_i hf
              obtain ⟨_, cl, _, hn, _⟩ := F.cls c i hi
              have hl := l.lookup f
              cases ef : fs.lookup f with
              | none => rw [ef] at q1; exact q1.elim
              | some v =>
                rw [ef] at q1 hl
                obtain ⟨u, e2, r2⟩ := hl
                exact ⟨a', _, dx, vs, u, rfl, hv, cl, hn f hf, e2, Post.ret q1 rm1 r2⟩
            · exact q1.elim
          · exact q1.elim
        | _ => exact q1.elim
    | _ => exact q1.elim⟩

/-! ### f-strings -/
def fmtD [DecidableEq Str] [DecidableEq Key] [DecidableEq String] [(α : Type) → GetElem? (List α) Nat α fun l i => i < l.length] [(α : Type) → Append (List α)] [(i j : Int) → Decidable (i < j)] [(i j : Int) → Decidable (i ≤ j)] (d : D) (M : Store) : R D := match d with
  | .str z => if z.length ≤ sizeLine then ret (.str z) M else .no
  | .int i => if i.natAbs < 2 ^ 1900 then ret (.str (toString i)) M else .no
  | _ => .no
theorem q_fmt (ha : PE X a (rE X W da)) : PE X (.FormattedValue a (-1) none pos) (rE X W (unD fmtD da)) :=
  (pe_fmt ha).imp fun σ H Q ⟨ι, ρ, M, rm, re, q⟩ => ⟨ι, ρ, M, rm, re, (Post.bind q).imp fun x H1 ⟨ι1, d, M1, m1, rm1, rx, q1⟩ => by
    unfold fmtD at q1
    cases rx with
    | str z =>
      dsimp only at q1
      split at q1
      · rename_i h
        exact .inl ⟨z, rfl, h, Post.ret q1 rm1 (.str _)⟩
      · exact q1.elim
    | int i =>
      dsimp only at q1
      split at q1
      · rename_i h
        exact .inr ⟨i, rfl, log2_small h, Post.ret q1 rm1 (.str _)⟩
      · exact q1.elim
    | _ => exact q1.elim⟩
/-- the parts in a row -/
def joinsD [DecidableEq Str] [DecidableEq Key] [DecidableEq String] [(α : Type) → GetElem? (List α) Nat α fun l i => i < l.length] [(α : Type) → Append (List α)] [(i j : Int) → Decidable (i < j)] [(i j : Int) → Decidable (i ≤ j)] : List ED → Str → ED
  | [], acc => fun _ M => ret (.str acc) M
  | d :: ds, acc => fun ρ M => (d ρ M).bind fun x M1 => match x with
    | .str y => if (acc ++ y).length ≤ sizeLine then joinsD ds (acc ++ y) ρ M1 else .no
    | _ => .no
inductive PJD (X : Cx) (W : WX) : List Expr → List ED → Prop where
  | nil : PJD X W [] []
  | cons {e : Expr} {d : ED} {es : List Expr} {ds : List ED} (h : PE X e (rE X W d)) (r : PJD X W es ds) : PJD X W (e :: es) (d :: ds)
theorem PJD.pj : ∀ {es : List Expr} {ds : List ED}, PJD X W es ds → PJ X es (ds.map (rE X W))
  | _, _, .nil => .nil
  | _, _, .cons h r => .cons h r.pj
theorem joins_tJs {Q : VK} : ∀ (ds : List ED) (acc : Str) (ι : List Addr) (ρ : Env1) (M : Store) (H : Hp), RepM (pw X) ι H M → RepE (pw X) ι H σ ρ → Post (pw X) ι H (Rep (pw X)) Q (WE W σ) (joinsD ds acc ρ M) →
    tJs (ds.map (rE X W)) acc σ H fun out H1 => Q (.str out) H1
  | [], acc, ι, ρ, M, H, rm, re, q => Post.ret q rm (.str _)
  | d :: ds, acc, ι, ρ, M, H, rm, re, q => by
    refine ⟨ι, ρ, M, rm, re, (Post.bind q).imp fun x H1 ⟨ι1, d', M1, m1, rm1, rx, q1⟩ => ?_⟩
    cases rx with
    | str y =>
      dsimp only at q1
      split at q1
      · rename_i h
        exact ⟨y, rfl, h, joins_tJs ds (acc ++ y) ι1 ρ M1 H1 rm1 (re.mono m1) q1⟩
      · exact q1.elim
    | _ => exact q1.elim
theorem q_joined {v1 v2 : Expr} {d1 d2 : ED} {ds : List ED} (h : PJD X W (v1 :: v2 :: rest) (d1 :: d2 :: ds)) : PE X (.JoinedStr (v1 :: v2 :: rest) pos) (rE X W (joinsD (d1 :: d2 :: ds) Str.empty)) :=
  (pe_joined h.pj).imp fun σ H Q ⟨ι, ρ, M, rm, re, q⟩ => joins_tJs _ _ ι ρ M H rm re q
theorem q_joined1 (h : PE X a (rE X W da)) : PE X (.JoinedStr [a] pos) (rE X W da) := pe_joined1 h
end
end Ev
set_option Elab.async false
set_option linter.all false
set_option maxRecDepth 100000
set_option maxHeartbeats 4000000
/-! Statements. -/
namespace Ev
open PySem PySem.Spec PyProof.Rows L2

/-- a statement's end -/
inductive RS where
  | nx (ρ : Env1) (M : Store)
  | rt (d : D) (M : Store)
  | bk (ρ : Env1) (M : Store)
  | ct (ρ : Env1) (M : Store)
  | ex (C : Str) (fs : Fs) (ρ : Env1) (M : Store)
  | no
abbrev SD := Env1 → Store → RS
/-- a target: an exception at one is no claim -/
abbrev GD := D → Env1 → Store → Option (Env1 × Store)
abbrev GDs := List D → Env1 → Store → Option (Env1 × Store)
def ofG [DecidableEq Str] [DecidableEq Key] [DecidableEq String] [(α : Type) → GetElem? (List α) Nat α fun l i => i < l.length] [(α : Type) → Append (List α)] [(i j : Int) → Decidable (i < j)] [(i j : Int) → Decidable (i ≤ j)] (r : Option (Env1 × Store)) : RS := match r with
  | some (ρ, M) => .nx ρ M
  | none => .no
def RS.andThen [DecidableEq Str] [DecidableEq Key] [DecidableEq String] [(α : Type) → GetElem? (List α) Nat α fun l i => i < l.length] [(α : Type) → Append (List α)] [(i j : Int) → Decidable (i < j)] [(i j : Int) → Decidable (i ≤ j)] (r : RS) (f : SD) : RS := match r with
  | .nx ρ M => f ρ M
  | r => r
def R.toS [DecidableEq Str] [DecidableEq Key] [DecidableEq String] [(α : Type) → GetElem? (List α) Nat α fun l i => i < l.length] [(α : Type) → Append (List α)] [(i j : Int) → Decidable (i < j)] [(i j : Int) → Decidable (i ≤ j)] {α : Type} (r : R α) (ρ : Env1) (k : α → Store → RS) : RS := match r with
  | .ok a M => k a M
  | .ex C fs M => .ex C fs ρ M
  | .no => .no
def PostS [DecidableEq Str] [DecidableEq Key] [DecidableEq String] [(α : Type) → GetElem? (List α) Nat α fun l i => i < l.length] [(α : Type) → Append (List α)] [(i j : Int) → Decidable (i < j)] [(i j : Int) → Decidable (i ≤ j)] (p : Pw) (ι : List Addr) (H : Hp) (D : Ends) (W : WX) : RS → Prop
  | .nx ρ M => ∀ ι' H' σ', Mono ι H ι' H' → RepM p ι' H' M → RepE p ι' H' σ' ρ → D.nx σ' H'
  | .rt d M => ∀ ι' H' v, Mono ι H ι' H' → RepM p ι' H' M → Rep p ι' H' v d → D.rt v H'
  | .bk ρ M => ∀ ι' H' σ', Mono ι H ι' H' → RepM p ι' H' M → RepE p ι' H' σ' ρ → D.bk σ' H'
  | .ct ρ M => ∀ ι' H' σ', Mono ι H ι' H' → RepM p ι' H' M → RepE p ι' H' σ' ρ → D.ct σ' H'
  | .ex C fs ρ M => ∀ ι' H' σ' cls d, Mono ι H ι' H' → RepM p ι' H' M → RepE p ι' H' σ' ρ → ExR p ι' H' C fs cls d → W cls d σ' H'
  | .no => False
section
variable {p : Pw} {ι ι' : List Addr} {H H' : Hp} {E E' : Ends} {W : WX} {σ : L2.St} {ρ : Env1} {M : Store}
theorem PostS.mono {r : RS} (h : PostS p ι H E W r) (m : Mono ι H ι' H') : PostS p ι' H' E W r := by
  cases r with
  | nx ρ M => exact fun ι2 H2 s m2 => h ι2 H2 s (m.trans m2)
  | rt d M => exact fun ι2 H2 s m2 => h ι2 H2 s (m.trans m2)
  | bk ρ M => exact fun ι2 H2 s m2 => h ι2 H2 s (m.trans m2)
  | ct ρ M => exact fun ι2 H2 s m2 => h ι2 H2 s (m.trans m2)
  | ex C fs ρ M => exact fun ι2 H2 s c d m2 => h ι2 H2 s c d (m.trans m2)
  | no => exact h
/-- a part in a statement -/
theorem PostS.part {α β : Type} {rel : List Addr → Hp → β → α → Prop} {r : R α} {k : α → Store → RS} (h : PostS p ι H E W (r.toS ρ k)) (re : RepE p ι H σ ρ) :
    Post p ι H rel (fun b H1 => ∃ ι1 a M1, Mono ι H ι1 H1 ∧ RepM p ι1 H1 M1 ∧ rel ι1 H1 b a ∧ PostS p ι1 H1 E W (k a M1)) (WE W σ) r := by
  cases r with
  | ok a M => exact fun ι2 H2 b m rm rb => ⟨ι2, a, M, m, rm, rb, PostS.mono (show PostS p ι H E W (k a M) from h) m⟩
  | ex C fs M => exact fun ι2 H2 c d m rm x => h ι2 H2 σ c d m rm (re.mono m) x
  | no => exact h
/-- what follows -/
theorem PostS.seq {r : RS} {f : SD} (h : PostS p ι H E W (r.andThen f)) :
    PostS p ι H { E with nx := fun σ1 H1 => ∃ ι1 ρ1 M1, Mono ι H ι1 H1 ∧ RepM p ι1 H1 M1 ∧ RepE p ι1 H1 σ1 ρ1 ∧ PostS p ι1 H1 E W (f ρ1 M1) } W r := by
  cases r with
  | nx ρ M => exact fun ι2 H2 s m rm re => ⟨ι2, ρ, M, m, rm, re, PostS.mono (show PostS p ι H E W (f ρ M) from h) m⟩
  | rt d M => exact h
  | bk ρ M => exact h
  | ct ρ M => exact h
  | ex C fs ρ M => exact h
  | no => exact h
theorem PostS.imp {r : RS} (h : PostS p ι H E W r) (h1 : ∀ σ H, E.nx σ H → E'.nx σ H) (h2 : ∀ v H, E.rt v H → E'.rt v H) (h3 : ∀ σ H, E.bk σ H → E'.bk σ H) (h4 : ∀ σ H, E.ct σ H → E'.ct σ H) : PostS p ι H E' W r := by
  cases r with
  | nx ρ M => exact fun ι2 H2 s m rm re => h1 _ _ (h ι2 H2 s m rm re)
  | rt d M => exact fun ι2 H2 s m rm re => h2 _ _ (h ι2 H2 s m rm re)
  | bk ρ M => exact fun ι2 H2 s m rm re => h3 _ _ (h ι2 H2 s m rm re)
  | ct ρ M => exact fun ι2 H2 s m rm re => h4 _ _ (h ι2 H2 s m rm re)
  | ex C fs ρ M => exact h
  | no => exact h
end

def rS [DecidableEq Str] [DecidableEq Key] [DecidableEq String] [(α : Type) → GetElem? (List α) Nat α fun l i => i < l.length] [(α : Type) → Append (List α)] [(i j : Int) → Decidable (i < j)] [(i j : Int) → Decidable (i ≤ j)] (X : Cx) (W : WX) (d : SD) : TS := fun E σ H => ∃ ι ρ M, RepM (pw X) ι H M ∧ RepE (pw X) ι H σ ρ ∧ PostS (pw X) ι H E W (d ρ M)
/-- only the slots ks may differ -/
def Same [DecidableEq Str] [DecidableEq Key] [DecidableEq String] [(α : Type) → GetElem? (List α) Nat α fun l i => i < l.length] [(α : Type) → Append (List α)] [(i j : Int) → Decidable (i < j)] [(i j : Int) → Decidable (i ≤ j)] (ks : List Nat) (σ σ' : L2.St) : Prop := σ'.length = σ.length ∧ ∀ i, i ∉ ks → σ'[i]? = σ[i]?
theorem Same.refl {ks : List Nat} {σ : L2.St} : Same ks σ σ := ⟨rfl, fun _ _ => rfl⟩
theorem Same.app {ks ls : List Nat} {σ σ' σ2 : L2.St} (a : Same ks σ σ') (b : Same ls σ' σ2) : Same (ks ++ ls) σ σ2 :=
  ⟨b.1.trans a.1, fun i hi => by
    rw [List.mem_append, not_or] at hi
    exact (b.2 i hi.2).trans (a.2 i hi.1)⟩
def PostG [DecidableEq Str] [DecidableEq Key] [DecidableEq String] [(α : Type) → GetElem? (List α) Nat α fun l i => i < l.length] [(α : Type) → Append (List α)] [(i j : Int) → Decidable (i < j)] [(i j : Int) → Decidable (i ≤ j)] (p : Pw) (ι : List Addr) (H : Hp) (σ : L2.St) (ks : List Nat) (Q : L2.St → Hp → Prop) : Option (Env1 × Store) → Prop
  | some (ρ, M) => ∀ ι' H' σ', Mono ι H ι' H' → RepM p ι' H' M → RepE p ι' H' σ' ρ → Same ks σ σ' → Q σ' H'
  | none => False
theorem PostG.mono {p : Pw} {ι ι' : List Addr} {H H' : Hp} {σ : L2.St} {ks : List Nat} {Q : L2.St → Hp → Prop} {r : Option (Env1 × Store)} (h : PostG p ι H σ ks Q r) (m : Mono ι H ι' H') : PostG p ι' H' σ ks Q r := by
  cases r with
  | none => exact h
  | some x => exact fun ι2 H2 s m2 => h ι2 H2 s (m.trans m2)
theorem PostG.bind {p : Pw} {ι : List Addr} {H : Hp} {σ : L2.St} {ks ls : List Nat} {Q : L2.St → Hp → Prop} {r : Option (Env1 × Store)} {f : Env1 × Store → Option (Env1 × Store)} (h : PostG p ι H σ (ks ++ ls) Q (r.bind f)) :
    PostG p ι H σ ks (fun σ1 H1 => ∃ ι1 ρ1 M1, Mono ι H ι1 H1 ∧ RepM p ι1 H1 M1 ∧ RepE p ι1 H1 σ1 ρ1 ∧ PostG p ι1 H1 σ1 ls Q (f (ρ1, M1))) r := by
  cases r with
  | none => exact h
  | some x => exact fun ι2 H2 s m rm re sm => ⟨ι2, x.1, x.2, m, rm, re, by
      have h2 := PostG.mono (show PostG p ι H σ (ks ++ ls) Q (f x) from h) m
      show PostG p ι2 H2 s ls Q (f x)
      cases e : f x with
      | none => rw [e] at h2; exact h2
      | some y => rw [e] at h2; exact fun ι3 H3 s3 m3 rm3 re3 sm3 => h2 ι3 H3 s3 m3 rm3 re3 (sm.app sm3)⟩
theorem PostG.imp {p : Pw} {ι : List Addr} {H : Hp} {σ : L2.St} {ks : List Nat} {Q Q' : L2.St → Hp → Prop} {r : Option (Env1 × Store)} (h : PostG p ι H σ ks Q r) (k : ∀ σ H, Q σ H → Q' σ H) : PostG p ι H σ ks Q' r := by
  cases r with
  | none => exact h
  | some x => exact fun ι2 H2 s m rm re sm => k _ _ (h ι2 H2 s m rm re sm)
theorem PostG.of {p : Pw} {ι : List Addr} {H : Hp} {σ : L2.St} {ks : List Nat} {E : Ends} {W : WX} {r : Option (Env1 × Store)} (h : PostS p ι H E W (ofG r)) : PostG p ι H σ ks E.nx r := by
  cases r with
  | none => exact h
  | some x => exact fun ι2 H2 s m rm re _ => h ι2 H2 s m rm re
def rG [DecidableEq Str] [DecidableEq Key] [DecidableEq String] [(α : Type) → GetElem? (List α) Nat α fun l i => i < l.length] [(α : Type) → Append (List α)] [(i j : Int) → Decidable (i < j)] [(i j : Int) → Decidable (i ≤ j)] (X : Cx) (ks : List Nat) (d : GD) : TG := fun v σ H Q => ∃ ι ρ M x, RepM (pw X) ι H M ∧ RepE (pw X) ι H σ ρ ∧ Rep (pw X) ι H v x ∧ PostG (pw X) ι H σ ks Q (d x ρ M)
def rGs [DecidableEq Str] [DecidableEq Key] [DecidableEq String] [(α : Type) → GetElem? (List α) Nat α fun l i => i < l.length] [(α : Type) → Append (List α)] [(i j : Int) → Decidable (i < j)] [(i j : Int) → Decidable (i ≤ j)] (X : Cx) (ks : List Nat) (d : GDs) : TGs := fun vs σ H Q => ∃ ι ρ M xs, RepM (pw X) ι H M ∧ RepE (pw X) ι H σ ρ ∧ RepL (pw X) ι H vs xs ∧ PostG (pw X) ι H σ ks Q (d xs ρ M)

section
variable {X : Cx} {W : WX} {g : Pg} {a b c e o : Expr} {es rest : List Expr} {da db dc dd : ED} {dr : AD} {pos apos pos' : Pos} {pins : List (Addr × Obj)} {σ : L2.St} {H : Hp} {s : Shared} {ι : List Addr} {ρ : Env1} {M : Store} {st : Stmt} {sts body orelse : List Stmt} {ds dt : SD} {tc : TD} {ks ls : List Nat}

theorem _root_.L2.PS.imp {t t' : TS} (h : PS X st t) (k : ∀ E σ H, t' E σ H → t E σ H) : PS X st t' := ⟨fun pins s σ H D I q => h.run pins s σ H D I (k D σ H q)⟩
theorem _root_.L2.PSs.imp {t t' : TS} (h : PSs X sts t) (k : ∀ E σ H, t' E σ H → t E σ H) : PSs X sts t' := ⟨fun pins s σ H D I q => h.run pins s σ H D I (k D σ H q)⟩
theorem _root_.L2.PG.imp {t t' : TG} (h : PG X e t) (k : ∀ v σ H Q, t' v σ H Q → t v σ H Q) : PG X e t' := ⟨fun pins s σ H v u Q I r q => h.run pins s σ H v u Q I r (k v σ H Q q)⟩

/-! ### blocks -/
def skipS [DecidableEq Str] [DecidableEq Key] [DecidableEq String] [(α : Type) → GetElem? (List α) Nat α fun l i => i < l.length] [(α : Type) → Append (List α)] [(i j : Int) → Decidable (i < j)] [(i j : Int) → Decidable (i ≤ j)] : SD := fun ρ M => .nx ρ M
def seqS [DecidableEq Str] [DecidableEq Key] [DecidableEq String] [(α : Type) → GetElem? (List α) Nat α fun l i => i < l.length] [(α : Type) → Append (List α)] [(i j : Int) → Decidable (i < j)] [(i j : Int) → Decidable (i ≤ j)] (a b : SD) : SD := fun ρ M => (a ρ M).andThen b
theorem qs_nil : PSs X [] (rS X W skipS) := pss_nil.imp fun E σ H ⟨ι, ρ, M, rm, re, q⟩ => q ι H σ .refl rm re
theorem qs_cons (h1 : PS X st (rS X W ds)) (h2 : PSs X sts (rS X W dt)) : PSs X (st :: sts) (rS X W (seqS ds dt)) := (pss_cons h1 h2).imp fun E σ H ⟨ι, ρ, M, rm, re, q⟩ =>
  ⟨ι, ρ, M, rm, re, (PostS.seq q).imp (fun σ1 H1 ⟨ι1, ρ1, M1, m1, rm1, re1, q1⟩ => ⟨ι1, ρ1, M1, rm1, re1, q1⟩) (fun _ _ x => x) (fun _ _ x => x) fun _ _ x => x⟩
theorem qs_pass : PS X (.Pass pos) (rS X W skipS) := ps_pass.imp fun E σ H ⟨ι, ρ, M, rm, re, q⟩ => q ι H σ .refl rm re
theorem qs_doc {x j pos pos'} : PS X (.Expr (.Constant (.str x) j pos) pos') (rS X W skipS) := ps_doc.imp fun E σ H ⟨ι, ρ, M, rm, re, q⟩ => q ι H σ .refl rm re
def bkS [DecidableEq Str] [DecidableEq Key] [DecidableEq String] [(α : Type) → GetElem? (List α) Nat α fun l i => i < l.length] [(α : Type) → Append (List α)] [(i j : Int) → Decidable (i < j)] [(i j : Int) → Decidable (i ≤ j)] : SD := fun ρ M => .bk ρ M
def ctS [DecidableEq Str] [DecidableEq Key] [DecidableEq String] [(α : Type) → GetElem? (List α) Nat α fun l i => i < l.length] [(α : Type) → Append (List α)] [(i j : Int) → Decidable (i < j)] [(i j : Int) → Decidable (i ≤ j)] : SD := fun ρ M => .ct ρ M
theorem qs_break : PS X (.Break pos) (rS X W bkS) := ps_break.imp fun E σ H ⟨ι, ρ, M, rm, re, q⟩ => q ι H σ .refl rm re
theorem qs_continue : PS X (.Continue pos) (rS X W ctS) := ps_continue.imp fun E σ H ⟨ι, ρ, M, rm, re, q⟩ => q ι H σ .refl rm re
def exprS [DecidableEq Str] [DecidableEq Key] [DecidableEq String] [(α : Type) → GetElem? (List α) Nat α fun l i => i < l.length] [(α : Type) → Append (List α)] [(i j : Int) → Decidable (i < j)] [(i j : Int) → Decidable (i ≤ j)] (da : ED) : SD := fun ρ M => (da ρ M).toS ρ fun _ M1 => .nx ρ M1
theorem qs_expr (he : PE X a (rE X W da)) (hs : swapsWith a none pos.line X.env = pure false) : PS X (.Expr a pos) (rS X W (exprS da)) := (ps_expr he hs).imp fun E σ H ⟨ι, ρ, M, rm, re, q⟩ =>
  ⟨ι, ρ, M, rm, re, (PostS.part q re).imp fun v H1 ⟨ι1, d, M1, m1, rm1, rv, q1⟩ => q1 ι1 H1 σ .refl rm1 (re.mono m1)⟩
def retS [DecidableEq Str] [DecidableEq Key] [DecidableEq String] [(α : Type) → GetElem? (List α) Nat α fun l i => i < l.length] [(α : Type) → Append (List α)] [(i j : Int) → Decidable (i < j)] [(i j : Int) → Decidable (i ≤ j)] (da : ED) : SD := fun ρ M => (da ρ M).toS ρ fun d M1 => .rt d M1
theorem qs_ret (he : PE X a (rE X W da)) : PS X (.Return (some a) pos) (rS X W (retS da)) := (ps_ret he).imp fun E σ H ⟨ι, ρ, M, rm, re, q⟩ =>
  ⟨ι, ρ, M, rm, re, (PostS.part q re).imp fun v H1 ⟨ι1, d, M1, m1, rm1, rv, q1⟩ => q1 ι1 H1 v .refl rm1 rv⟩
theorem qs_retN : PS X (.Return none pos) (rS X W fun _ M => .rt .non M) := ps_retN.imp fun E σ H ⟨ι, ρ, M, rm, re, q⟩ => q ι H .non .refl rm .non
def ifS [DecidableEq Str] [DecidableEq Key] [DecidableEq String] [(α : Type) → GetElem? (List α) Nat α fun l i => i < l.length] [(α : Type) → Append (List α)] [(i j : Int) → Decidable (i < j)] [(i j : Int) → Decidable (i ≤ j)] (tc : TD) (ds dt : SD) : SD := fun ρ M => (tc ρ M).toS ρ fun k M1 => if k = true then ds ρ M1 else dt ρ M1
theorem qs_if (hc : PT X c (rT X W tc)) (ha : PSs X body (rS X W ds)) (hb : PSs X orelse (rS X W dt)) : PS X (.If c body orelse pos) (rS X W (ifS tc ds dt)) := (ps_if hc ha hb).imp fun E σ H ⟨ι, ρ, M, rm, re, q⟩ =>
  ⟨ι, ρ, M, rm, re, (PostS.part q re).imp fun k H1 ⟨ι1, k', M1, m1, rm1, ek, q1⟩ => by
    subst ek
    cases k with
    | true => exact iteT ⟨ι1, ρ, M1, rm1, re.mono m1, q1⟩
    | false => exact iteF ⟨ι1, ρ, M1, rm1, re.mono m1, q1⟩⟩

theorem _root_.L2.PGs.imp {t t' : TGs} (h : PGs X es t) (k : ∀ v σ H Q, t' v σ H Q → t v σ H Q) : PGs X es t' := ⟨fun pins s σ H v u Q I r q => h.run pins s σ H v u Q I r (k v σ H Q q)⟩

/-! ### targets, assignments -/
def gName1 [DecidableEq Str] [DecidableEq Key] [DecidableEq String] [(α : Type) → GetElem? (List α) Nat α fun l i => i < l.length] [(α : Type) → Append (List α)] [(i j : Int) → Decidable (i < j)] [(i j : Int) → Decidable (i ≤ j)] (i : Nat) : GD := fun d ρ M => some (ρ.set i (some d), M)
theorem qg_name {i : Nat} {x : Str} (h : PG X (.Name x pos) (gName i)) : PG X (.Name x pos) (rG X [i] (gName1 i)) := h.imp fun v σ H Q ⟨ι, ρ, M, x, rm, re, rv, q⟩ => q ι H _ .refl rm (re.set rv) ⟨by simp, fun j hj => List.getElem?_set_ne (fun e => hj (by simp [e]))⟩
def gNone [DecidableEq Str] [DecidableEq Key] [DecidableEq String] [(α : Type) → GetElem? (List α) Nat α fun l i => i < l.length] [(α : Type) → Append (List α)] [(i j : Int) → Decidable (i < j)] [(i j : Int) → Decidable (i ≤ j)] : GD := fun _ _ _ => none
theorem qg_no : PG X e (rG X ks gNone) := ⟨fun _ _ _ _ _ _ _ _ _ ⟨_, _, _, _, _, _, _, q⟩ => q.elim⟩
def gsNil [DecidableEq Str] [DecidableEq Key] [DecidableEq String] [(α : Type) → GetElem? (List α) Nat α fun l i => i < l.length] [(α : Type) → Append (List α)] [(i j : Int) → Decidable (i < j)] [(i j : Int) → Decidable (i ≤ j)] : GDs := fun ds ρ M => match ds with
  | [] => some (ρ, M)
  | _ => none
def gsCons [DecidableEq Str] [DecidableEq Key] [DecidableEq String] [(α : Type) → GetElem? (List α) Nat α fun l i => i < l.length] [(α : Type) → Append (List α)] [(i j : Int) → Decidable (i < j)] [(i j : Int) → Decidable (i ≤ j)] (a : GD) (r : GDs) : GDs := fun ds ρ M => match ds with
  | d :: ds => (a d ρ M).bind fun x => r ds x.1 x.2
  | [] => none
theorem qgs_nil : PGs X [] (rGs X [] gsNil) := pgs_nil.imp fun vs σ H Q ⟨ι, ρ, M, xs, rm, re, rv, q⟩ => by
  cases rv with
  | nil => exact ⟨rfl, q ι H σ .refl rm re .refl⟩
  | cons _ _ => exact q.elim
theorem qgs_cons {ga : GD} {gr : GDs} (h1 : PG X e (rG X ks ga)) (h2 : PGs X es (rGs X ls gr)) (hs : (assignEach (e :: es) X.env).map (·.2) = assign e X.env :: (assignEach es X.env).map (·.2)) : PGs X (e :: es) (rGs X (ks ++ ls) (gsCons ga gr)) :=
  (pgs_cons h1 h2 hs).imp fun vs σ H Q ⟨ι, ρ, M, xs, rm, re, rv, q⟩ => by
    cases rv with
    | nil => exact q.elim
    | cons r l => exact ⟨_, _, rfl, ι, ρ, M, _, rm, re, r, (PostG.bind q).imp fun σ1 H1 ⟨ι1, ρ1, M1, m1, rm1, re1, q1⟩ => ⟨ι1, ρ1, M1, _, rm1, re1, l.mono m1, q1⟩⟩
/-- the items of a tuple, of a list -/
def itemsOf [DecidableEq Str] [DecidableEq Key] [DecidableEq String] [(α : Type) → GetElem? (List α) Nat α fun l i => i < l.length] [(α : Type) → Append (List α)] [(i j : Int) → Decidable (i < j)] [(i j : Int) → Decidable (i ≤ j)] (d : D) (M : Store) : Option (List D) := match d with
  | .tup xs => some xs
  | .kt xs => some xs
  | .ref i => lstRd M i
  | _ => none
def gTup1 [DecidableEq Str] [DecidableEq Key] [DecidableEq String] [(α : Type) → GetElem? (List α) Nat α fun l i => i < l.length] [(α : Type) → Append (List α)] [(i j : Int) → Decidable (i < j)] [(i j : Int) → Decidable (i ≤ j)] (n : Nat) (r : GDs) : GD := fun d ρ M => match itemsOf d M with
  | some xs => if xs.length = n then r xs ρ M else none
  | none => none
theorem PG.two {t t' u : TG} (h1 : PG X e t) (h2 : PG X e t') (k : ∀ v σ H Q, u v σ H Q → t v σ H Q ∨ t' v σ H Q) : PG X e u := ⟨fun pins s σ H v w Q I r q => (k v σ H Q q).elim (h1.run pins s σ H v w Q I r) (h2.run pins s σ H v w Q I r)⟩
theorem qg_tup {k n : Nat} {gr : GDs} (hc : X.calm = true) (h : PGs X es (rGs X ks gr)) (hn : (assignEach es X.env).length = n) (hst : (assignEach es X.env).findIdx? (·.1) = none) : PG X (.Tuple es k pos) (rG X ks (gTup1 n gr)) :=
  PG.two (pg_tup hc h hn hst) (pg_lst hc h hn hst) fun v σ H Q ⟨ι, ρ, M, x, rm, re, rv, q⟩ => by
    unfold gTup1 at q
    split at q
    · rename_i xs e
      split at q
      · rename_i hl
        cases rv with
        | tup ha l => cases e; exact .inl ⟨_, _, rfl, .inl (.inl ha), by rw [l.length]; exact hl, ι, ρ, M, _, rm, re, l, q⟩
        | kt ha l => cases e; exact .inl ⟨_, _, rfl, ha.sq, by rw [l.length]; exact hl, ι, ρ, M, _, rm, re, l, q⟩
        | ref hi =>
          obtain ⟨a, vs, e1, hq, l⟩ := lstRd_at rm (.ref hi) e
          cases e1
          exact .inr ⟨_, vs, rfl, hq _, by rw [l.length]; exact hl, ι, ρ, M, _, rm, re, l, q⟩
        | _ => cases e
      · exact q.elim
    · exact q.elim
def asgS [DecidableEq Str] [DecidableEq Key] [DecidableEq String] [(α : Type) → GetElem? (List α) Nat α fun l i => i < l.length] [(α : Type) → Append (List α)] [(i j : Int) → Decidable (i < j)] [(i j : Int) → Decidable (i ≤ j)] (da : ED) (gd : GD) : SD := fun ρ M => (da ρ M).toS ρ fun d M1 => ofG (gd d ρ M1)
theorem asg_imp {gd : GD} {E : Ends} (h : rS X W (asgS da gd) E σ H) : tAsg (rE X W da) (rG X ks gd) E σ H := by
  obtain ⟨ι, ρ, M, rm, re, q⟩ := h
  exact ⟨ι, ρ, M, rm, re, (PostS.part q re).imp fun v H1 ⟨ι1, d, M1, m1, rm1, rv, q1⟩ => ⟨ι1, ρ, M1, d, rm1, re.mono m1, rv, PostG.of q1⟩⟩
theorem qs_asg {tg : Expr} {gd : GD} (he : PE X a (rE X W da)) (hg : PG X tg (rG X ks gd)) (hs : swapsWithSole [tg] a pos.line X.env = pure false) (hw : swappedStores [tg] a X.env = pure none) (h1 : (assignEach [tg] X.env).map (·.2) = [assign tg X.env]) :
    PS X (.Assign [tg] a pos) (rS X W (asgS da gd)) := (ps_asg he hg hs hw h1).imp fun E σ H h => asg_imp h
theorem qs_set {i : Nat} {x : Str} (hN : X.N.Nodup) (hi : X.N[i]? = some x) (hx : Loc X.env.scope x) (he : PE X a (rE X W da)) (hs : swapsWith a (some (.Name x pos')) pos.line X.env = pure false) (hf : X.fn x = true ∨ X.env.scope.names.lookup x = some .local) :
    PS X (.Assign [.Name x pos'] a pos) (rS X W (asgS da (gName1 i))) := (ps_set hN hi hx he hs hf).imp fun E σ H ⟨ι, ρ, M, rm, re, q⟩ =>
  ⟨ι, ρ, M, rm, re, (PostS.part q re).imp fun v H1 ⟨ι1, d, M1, m1, rm1, rv, q1⟩ => q1 ι1 H1 _ .refl rm1 ((re.mono m1).set rv)⟩
/-- a, b = x, y -/
def parS [DecidableEq Str] [DecidableEq Key] [DecidableEq String] [(α : Type) → GetElem? (List α) Nat α fun l i => i < l.length] [(α : Type) → Append (List α)] [(i j : Int) → Decidable (i < j)] [(i j : Int) → Decidable (i ≤ j)] (i j : Nat) (dr : AD) : SD := fun ρ M => (dr ρ M).toS ρ fun ds M1 => match ds with
  | [x, y] => .nx ((ρ.set i (some x)).set j (some y)) M1
  | _ => .no
theorem qs_par {i j : Nat} {x y : Str} {px py pt : Pos} {kt k2 pt2} (hc : X.calm = true) (hN : X.N.Nodup) (hi : X.N[i]? = some x) (hj : X.N[j]? = some y) (hij : i ≠ j)
    (hx : X.env.scope.names.lookup x = some .local) (hy : X.env.scope.names.lookup y = some .local) (ha : PA X [a, b] (rA X W dr))
    (hw : swappedStores [.Tuple [.Name x px, .Name y py] kt pt] (.Tuple [a, b] k2 pt2) X.env = pure (some [x, y]))
    (hs : swapsWithSole [.Tuple [.Name x px, .Name y py] kt pt] (.Tuple [a, b] k2 pt2) pos.line X.env = pure false) :
    PS X (.Assign [.Tuple [.Name x px, .Name y py] kt pt] (.Tuple [a, b] k2 pt2) pos) (rS X W (parS i j dr)) := (ps_par hc hN hi hj hij hx hy ha hw hs).imp fun E σ H ⟨ι, ρ, M, rm, re, q⟩ =>
  ⟨ι, ρ, M, rm, re, (PostS.part q re).imp fun vs H1 ⟨ι1, ds, M1, m1, rm1, rv, q1⟩ => by
    cases rv with
    | nil => exact q1.elim
    | cons r l =>
      cases l with
      | nil => exact q1.elim
      | cons r' l =>
        cases l with
        | nil => exact ⟨_, _, rfl, q1 ι1 H1 _ .refl rm1 (((re.mono m1).set r).set r')⟩
        | cons _ _ => exact q1.elim⟩
end
end Ev
set_option Elab.async false
set_option linter.all false
set_option maxRecDepth 100000
set_option maxHeartbeats 4000000
/-! Stores in objects. -/
namespace Ev
open PySem PySem.Spec PyProof.Rows L2

section
variable {p : Pw} {ι : List Addr} {H : Hp} {M : Store}
def putD [DecidableEq Str] [DecidableEq Key] [DecidableEq String] [(α : Type) → GetElem? (List α) Nat α fun l i => i < l.length] [(α : Type) → Append (List α)] [(i j : Int) → Decidable (i < j)] [(i j : Int) → Decidable (i ≤ j)] {κ : Type} [DecidableEq κ] (kvs : List (κ × D)) (k : κ) (v : D) : List (κ × D) :=
  if (kvs.any fun kv => decide (kv.1 = k)) = true then kvs.map (fun kv => if kv.1 = k then (kv.1, v) else kv) else kvs ++ [(k, v)]
theorem RepK.any {κ : Type} [DecidableEq κ] (k : κ) : ∀ {vs : List (κ × V)} {ds : List (κ × D)}, RepK p ι H vs ds → (vs.any fun kv => decide (kv.1 = k)) = (ds.any fun kv => decide (kv.1 = k))
  | _, _, .nil => rfl
  | _, _, .cons _ l => by simp only [List.any_cons, RepK.any k l]
theorem RepK.mapPut {κ : Type} [DecidableEq κ] (k : κ) {v : V} {d : D} (r : Rep p ι H v d) : ∀ {vs : List (κ × V)} {ds : List (κ × D)}, RepK p ι H vs ds → RepK p ι H (vs.map fun kv => if kv.1 = k then (kv.1, v) else kv) (ds.map fun kv => if kv.1 = k then (kv.1, d) else kv)
  | _, _, .nil => .nil
  | (k', v') :: vs, (_, d') :: ds, .cons r' l => by
    have ih := RepK.mapPut k r l
    by_cases e : k' = k
    · simp only [List.map_cons, if_pos e]
      exact .cons r ih
    · simp only [List.map_cons, if_neg e]
      exact .cons r' ih
theorem RepK.put {κ : Type} [DecidableEq κ] {k : κ} {v : V} {d : D} {vs : List (κ × V)} {ds : List (κ × D)} (l : RepK p ι H vs ds) (r : Rep p ι H v d) : RepK p ι H (putK vs k v) (putD ds k d) := by
  unfold putK putD
  rw [l.any k]
  split
  · exact l.mapPut k r
  · exact l.append (.cons r .nil)
/-- a field put -/
def putFD [DecidableEq Str] [DecidableEq Key] [DecidableEq String] [(α : Type) → GetElem? (List α) Nat α fun l i => i < l.length] [(α : Type) → Append (List α)] [(i j : Int) → Decidable (i < j)] [(i j : Int) → Decidable (i ≤ j)] (f : Str) (v : D) : Fs → Fs
  | [] => [(f, v)]
  | (g, x) :: r => if g = f then (g, v) :: r else (g, x) :: putFD f v r
theorem RepK.putF (f : Str) {v : V} {d : D} (r : Rep p ι H v d) : ∀ {vs : List (Str × V)} {ds : Fs}, RepK p ι H vs ds → RepK p ι H (L2.putF f v vs) (putFD f d ds)
  | _, _, .nil => .cons r .nil
  | (k, v') :: vs, (_, d') :: ds, .cons r' l => by
    have ih := RepK.putF f r l
    unfold L2.putF putFD
    by_cases e : k = f
    · rw [if_pos e, if_pos e]
      exact .cons r l
    · rw [if_neg e, if_neg e]
      exact .cons r' ih
/-- an object put in the store's place -/
theorem set_rep {u w : HO} {a : Addr} {r : Nat} {o : MO} (rm : RepM p ι H M) (hr : ι[r]? = some a) (hw : H a = some w) (hnt : ∀ xs, w ≠ .tup xs) (h : ∀ (m : Mono ι H ι (upd H a u)), RepO p ι (upd H a u) a o) (hnf : ∀ o v, w ≠ .frz o v := by intro _ _ z; cases z) : RepM p ι (upd H a u) (M.set r o) ∧ Mono ι H ι (upd H a u) :=
  rm.upd_set hr hw hnt (h (.set (List.mem_of_getElem? hr) hw hnt hnf)) hnf
/-- a dict's entry put -/
def dputM [DecidableEq Str] [DecidableEq Key] [DecidableEq String] [(α : Type) → GetElem? (List α) Nat α fun l i => i < l.length] [(α : Type) → Append (List α)] [(i j : Int) → Decidable (i < j)] [(i j : Int) → Decidable (i ≤ j)] (M : Store) (r : Nat) (k v : D) : Option Store := match M[r]? with
  | some (.dK kvs) => (match keyOf k with
    | some k => if kvs.length < sizeLine then some (M.set r (.dK (putD kvs k v))) else none
    | none => none)
  | some (.dT kvs) => (match keysOf k with
    | some k => if kvs.length < sizeLine then some (M.set r (.dT (putD kvs k v))) else none
    | none => none)
  | _ => none
theorem dputM_ok {r : Nat} {x y v : V} {k d : D} {M' : Store} (rm : RepM p ι H M) (hx : Rep p ι H x (.ref r)) (hy : Rep p ι H y k) (hv : Rep p ι H v d) (e : dputM M r k d = some M') :
    ∃ a H', x = .ref a ∧ DPut H a y v H' ∧ RepM p ι H' M' ∧ Mono ι H ι H' := by
  cases hx with
  | @ref a _ hi =>
  unfold dputM at e
  cases q : M[r]? with
  | none => rw [q] at e; cases e
  | some w =>
    have ro := rm.at_ r a w hi q
    rw [q] at e
    cases w with
    | dK kvs =>
      obtain ⟨vs, ha, l⟩ := ro
      dsimp only at e
      split at e
      · rename_i k' ek
        split at e
        · rename_i hl
          cases e
          cases keyOf_rep hy ek
          obtain ⟨rm2, m2⟩ := set_rep (u := .dK (putK vs k' v)) (o := .dK (putD kvs k' d)) rm hi ha (fun _ z => nomatch z) fun m => ⟨_, upd_same, (l.put hv).mono m⟩
          exact ⟨a, _, rfl, DPut.k ha (by rw [l.length]; exact hl), rm2, m2⟩
        · cases e
      · cases e
    | dT kvs =>
      obtain ⟨vs, ha, l⟩ := ro
      dsimp only at e
      split at e
      · rename_i k' ek
        split at e
        · rename_i hl
          cases e
          obtain ⟨b, ws, rfl, ht, rfl⟩ := keysOf_rep rm hy ek
          obtain ⟨rm2, m2⟩ := set_rep (u := .dT (putK vs k' v)) (o := .dT (putD kvs k' d)) rm hi ha (fun _ z => nomatch z) fun m => ⟨_, upd_same, (l.put hv).mono m⟩
          exact ⟨a, _, rfl, DPut.t ha ht (by rw [l.length]; exact hl), rm2, m2⟩
        · cases e
      · cases e
    | _ => cases e
/-- an entry of a list put -/
def lputM [DecidableEq Str] [DecidableEq Key] [DecidableEq String] [(α : Type) → GetElem? (List α) Nat α fun l i => i < l.length] [(α : Type) → Append (List α)] [(i j : Int) → Decidable (i < j)] [(i j : Int) → Decidable (i ≤ j)] (M : Store) (r : Nat) (k v : D) : Option Store := match M[r]?, k with
  | some (.lst xs), .int i => (match ixJ xs.length i with
    | some j => some (M.set r (.lst (xs.set j v)))
    | none => none)
  | _, _ => none
theorem lputM_ok {r : Nat} {x y v : V} {k d : D} {M' : Store} (rm : RepM p ι H M) (hx : Rep p ι H x (.ref r)) (hy : Rep p ι H y k) (hv : Rep p ι H v d) (e : lputM M r k d = some M') :
    ∃ a xs i j, x = .ref a ∧ y = .int i ∧ H a = some (.lst xs) ∧ ixN xs.length i = some j ∧ RepM p ι (upd H a (.lst (xs.set j v))) M' ∧ Mono ι H ι (upd H a (.lst (xs.set j v))) := by
  cases hx with
  | @ref a _ hi =>
  unfold lputM at e
  simp only [ixJ_eq] at e
  split at e
  · rename_i xs i q
    have ro := rm.at_ r a _ hi q
    obtain ⟨vs, ha, l⟩ := ro
    split at e
    · rename_i j ej
      cases e
      cases hy
      obtain ⟨rm2, m2⟩ := set_rep (u := .lst (vs.set j v)) (o := .lst (xs.set j d)) rm hi ha (fun _ z => nomatch z) fun m => ⟨_, upd_same, (l.set hv j).mono m⟩
      exact ⟨a, vs, i, j, rfl, rfl, ha, by rw [l.length]; exact ej, rm2, m2⟩
    · cases e
  · cases e
end
section
variable {X : Cx} {W : WX} {g : Pg} {a b c e o i value : Expr} {es rest : List Expr} {da db dc dd : ED} {dr : AD} {pos apos pos' tpos : Pos} {pins : List (Addr × Obj)} {σ : L2.St} {H : Hp} {s : Shared} {ι : List Addr} {ρ : Env1} {M : Store} {st : Stmt} {sts body orelse : List Stmt} {ds dt : SD} {tc : TD}
theorem _root_.L2.PS.two {t t' u : TS} (h1 : PS X st t) (h2 : PS X st t') (k : ∀ E σ H, u E σ H → t E σ H ∨ t' E σ H) : PS X st u := ⟨fun pins s σ H D I q => (k D σ H q).elim (h1.run pins s σ H D I) (h2.run pins s σ H D I)⟩

/-! ### o[i] = v -/
def putM [DecidableEq Str] [DecidableEq Key] [DecidableEq String] [(α : Type) → GetElem? (List α) Nat α fun l i => i < l.length] [(α : Type) → Append (List α)] [(i j : Int) → Decidable (i < j)] [(i j : Int) → Decidable (i ≤ j)] (M : Store) (x k v : D) : Option Store := match x with
  | .ref r => (match M[r]? with
    | some (.lst _) => lputM M r k v
    | _ => dputM M r k v)
  | _ => none
def rSetA [DecidableEq Str] [DecidableEq Key] [DecidableEq String] [(α : Type) → GetElem? (List α) Nat α fun l i => i < l.length] [(α : Type) → Append (List α)] [(i j : Int) → Decidable (i < j)] [(i j : Int) → Decidable (i ≤ j)] : V → V → V → Hp → (Hp → Prop) → Prop := fun o i v H Q => rSetL o i v H Q ∨ ∃ a H', o = .ref a ∧ DPut H a i v H' ∧ Q H'
theorem set_any (hu : X.A.units + 1 < cLine) : PSet X rSetA := fun pins s σ H o i v ov iv u Q I ro ri rv h => h.elim (set_list pins s σ H o i v ov iv u Q I ro ri rv) fun ⟨a, H', e, g, q⟩ => by
  subst e
  obtain rfl : ov = Value.ref a := ro
  exact d_setItem hu I g ri rv fun s4 I4 => ⟨H', I4, q⟩
theorem putM_ok {x k v : D} {xv yv vv : V} {M' : Store} {Q : Hp → Prop} (rm : RepM (pw X) ι H M) (hx : Rep (pw X) ι H xv x) (hy : Rep (pw X) ι H yv k) (hv : Rep (pw X) ι H vv v) (e : putM M x k v = some M') (q : ∀ H', RepM (pw X) ι H' M' → Mono ι H ι H' → Q H') : rSetA xv yv vv H Q := by
  unfold putM at e
  split at e
  · split at e
    · obtain ⟨a, xs, i, j, rfl, rfl, h1, h2, rm2, m2⟩ := lputM_ok rm hx hy hv e
      exact .inl ⟨a, xs, i, j, rfl, rfl, h1, h2, q _ rm2 m2⟩
    · obtain ⟨a, H', rfl, g, rm2, m2⟩ := dputM_ok rm hx hy hv e
      exact .inr ⟨a, H', rfl, g, q _ rm2 m2⟩
  · cases e
def subS [DecidableEq Str] [DecidableEq Key] [DecidableEq String] [(α : Type) → GetElem? (List α) Nat α fun l i => i < l.length] [(α : Type) → Append (List α)] [(i j : Int) → Decidable (i < j)] [(i j : Int) → Decidable (i ≤ j)] (dv do_ di : ED) : SD := fun ρ M => (dv ρ M).toS ρ fun v M1 => (do_ ρ M1).toS ρ fun x M2 => (di ρ M2).toS ρ fun k M3 => match putM M3 x k v with
  | some M4 => .nx ρ M4
  | none => .no
theorem qs_sub {dv do_ di : ED} (hu : X.A.units + 1 < cLine) (hv : PE X value (rE X W dv)) (ho : PE X o (rE X W do_)) (hi : PE X i (rE X W di))
    (ha : ∀ v, assign (.Subscript o i pos') X.env v = (do
      let ov ← holding [v] (eval o X.env)
      let iv ← holding [v, ov] (eval i X.env)
      standAt pos'
      holding [v, ov, iv] (setItem ov iv v)
      release [v, ov, iv] []))
    (hs : swapsWithSole [.Subscript o i pos'] value pos.line X.env = pure false) (hw : swappedStores [.Subscript o i pos'] value X.env = pure none) (h1 : (assignEach [.Subscript o i pos'] X.env).map (·.2) = [assign (.Subscript o i pos') X.env]) :
    PS X (.Assign [.Subscript o i pos'] value pos) (rS X W (subS dv do_ di)) := (ps_asg hv (pg_sub ho hi (set_any hu) ha) hs hw h1).imp fun E σ H ⟨ι, ρ, M, rm, re, q⟩ =>
  ⟨ι, ρ, M, rm, re, (PostS.part q re).imp fun v H1 ⟨ι1, d, M1, m1, rm1, rv, q1⟩ => by
    refine ⟨ι1, ρ, M1, rm1, re.mono m1, (PostS.part q1 (re.mono m1)).imp fun x H2 ⟨ι2, x', M2, m2, rm2, rx, q2⟩ => ?_⟩
    refine ⟨ι2, ρ, M2, rm2, re.mono (m1.trans m2), (PostS.part q2 (re.mono (m1.trans m2))).imp fun k H3 ⟨ι3, k', M3, m3, rm3, rk, q3⟩ => ?_⟩
    cases e : putM M3 x' k' d with
    | none => rw [e] at q3; exact q3.elim
    | some M4 =>
      rw [e] at q3
      exact putM_ok rm3 (rx.mono m3) rk (rv.mono (m2.trans m3)) e fun H' rm4 m4 => q3 _ _ _ m4 rm4 (re.mono (((m1.trans m2).trans m3).trans m4))⟩

/-- o[i] as a part of a target -/
def gSubT [DecidableEq Str] [DecidableEq Key] [DecidableEq String] [(α : Type) → GetElem? (List α) Nat α fun l i => i < l.length] [(α : Type) → Append (List α)] [(i j : Int) → Decidable (i < j)] [(i j : Int) → Decidable (i ≤ j)] (do_ di : ED) : GD := fun d ρ M => match do_ ρ M with
  | .ok x M1 => (match di ρ M1 with
    | .ok k M2 => (putM M2 x k d).map fun M3 => (ρ, M3)
    | _ => none)
  | _ => none
theorem qg_sub {do_ di : ED} (hu : X.A.units + 1 < cLine) (ho : PE X o (rE X W do_)) (hi : PE X i (rE X W di))
    (ha : ∀ v, assign (.Subscript o i pos') X.env v = (do
      let ov ← holding [v] (eval o X.env)
      let iv ← holding [v, ov] (eval i X.env)
      standAt pos'
      holding [v, ov, iv] (setItem ov iv v)
      release [v, ov, iv] [])) : PG X (.Subscript o i pos') (rG X [] (gSubT do_ di)) := (pg_sub ho hi (set_any hu) ha).imp fun v σ H Q ⟨ι, ρ, M, d, rm, re, rv, q⟩ => by
  refine ⟨ι, ρ, M, rm, re, ?_⟩
  unfold gSubT at q
  cases e1 : do_ ρ M with
  | no => rw [e1] at q; exact q.elim
  | ex _ _ _ => rw [e1] at q; exact q.elim
  | ok x M1 =>
    rw [e1] at q
    dsimp only at q
    intro ι1 H1 xv m1 rm1 rx
    refine ⟨ι1, ρ, M1, rm1, re.mono m1, ?_⟩
    cases e2 : di ρ M1 with
    | no => rw [e2] at q; exact q.elim
    | ex _ _ _ => rw [e2] at q; exact q.elim
    | ok k M2 =>
      rw [e2] at q
      dsimp only at q
      intro ι2 H2 kv m2 rm2 rk
      cases e3 : putM M2 x k d with
      | none => rw [e3] at q; exact q.elim
      | some M3 =>
        rw [e3] at q
        exact putM_ok rm2 (rx.mono m2) rk (rv.mono (m1.trans m2)) e3 fun H' rm3 m3 => q ι2 H' σ ((m1.trans m2).trans m3) rm3 (re.mono ((m1.trans m2).trans m3)) .refl

/-! ### o.f = v -/
def fcls [DecidableEq Str] [DecidableEq Key] [DecidableEq String] [(α : Type) → GetElem? (List α) Nat α fun l i => i < l.length] [(α : Type) → Append (List α)] [(i j : Int) → Decidable (i < j)] [(i j : Int) → Decidable (i ≤ j)] (M : Store) (x : D) : Option Str := match x with
  | .ref r => (match M[r]? with
    | some (.ins c _) => some c
    | _ => none)
  | _ => none
def fputM [DecidableEq Str] [DecidableEq Key] [DecidableEq String] [(α : Type) → GetElem? (List α) Nat α fun l i => i < l.length] [(α : Type) → Append (List α)] [(i j : Int) → Decidable (i < j)] [(i j : Int) → Decidable (i ≤ j)] (g : Pg) (f : Str) (M : Store) (x v : D) : Option Store := match x with
  | .ref r => (match M[r]? with
    | some (.ins c fs) => (match g.cls.lookup c with
      | some i => if f ∈ i.fields ∧ fs.length < 1000 then some (M.set r (.ins c (putFD f v fs))) else none
      | none => none)
    | _ => none)
  | _ => none
theorem fputM_ok (F : Facts X g) {f : Str} {x v : D} {xv vv : V} {M' : Store} (rm : RepM (pw X) ι H M) (hx : Rep (pw X) ι H xv x) (hv : Rep (pw X) ι H vv v) (e : fputM g f M x v = some M') :
    ∃ a C dx fs c, xv = .ref a ∧ H a = some (.ins C dx fs) ∧ fcls M x = some c ∧ C = He.ga X.K c ∧ Cls X.K C ∧ NoAttr X.K C f ∧ fs.length < 1000 ∧ RepM (pw X) ι (upd H a (.ins C dx (putF f vv fs))) M' ∧ Mono ι H ι (upd H a (.ins C dx (putF f vv fs))) := by
  unfold fputM at e
  split at e
  · rename_i r
    cases hx with
    | @ref a _ hi =>
    split at e
    · rename_i c fs q
      obtain ⟨dx, vs, ha, l⟩ := rm.at_ r a _ hi q
      split at e
      · rename_i ci hc
        obtain ⟨_, cl, _, hn, _⟩ := F.cls c ci hc
        split at e
        · rename_i hf
          cases e
          obtain ⟨rm2, m2⟩ := set_rep (u := .ins (He.ga X.K c) dx (putF f vv vs)) (o := .ins c (putFD f v fs)) rm hi ha (fun _ z => nomatch z) fun m => ⟨dx, _, upd_same, (l.putF f hv).mono m⟩
          exact ⟨a, _, dx, vs, c, rfl, ha, by unfold fcls; dsimp only; rw [q], rfl, cl, hn f hf.1, by rw [l.length]; exact hf.2, rm2, m2⟩
        · cases e
      · cases e
    · cases e
  · cases e
def fldS [DecidableEq Str] [DecidableEq Key] [DecidableEq String] [(α : Type) → GetElem? (List α) Nat α fun l i => i < l.length] [(α : Type) → Append (List α)] [(i j : Int) → Decidable (i < j)] [(i j : Int) → Decidable (i ≤ j)] (g : Pg) (f : Str) (dv do_ : ED) : SD := fun ρ M => (dv ρ M).toS ρ fun v M1 => (do_ ρ M1).toS ρ fun x M2 => match fputM g f M2 x v with
  | some M3 => .nx ρ M3
  | none => .no
theorem qs_fld (F : Facts X g) {f : Str} {dv do_ : ED} (ho : PE X o (rE X W do_)) (hv : PE X value (rE X W dv)) (hs : swapsWith value (some (.Attribute o f pos')) pos.line X.env = pure false) : PS X (.Assign [.Attribute o f pos'] value pos) (rS X W (fldS g f dv do_)) :=
  (ps_fld ho hv hs).imp fun E σ H ⟨ι, ρ, M, rm, re, q⟩ => ⟨ι, ρ, M, rm, re, (PostS.part q re).imp fun v H1 ⟨ι1, d, M1, m1, rm1, rv, q1⟩ => by
    refine ⟨ι1, ρ, M1, rm1, re.mono m1, (PostS.part q1 (re.mono m1)).imp fun x H2 ⟨ι2, x', M2, m2, rm2, rx, q2⟩ => ?_⟩
    cases e : fputM g f M2 x' d with
    | none => rw [e] at q2; exact q2.elim
    | some M3 =>
      rw [e] at q2
      obtain ⟨a, C, dx, fs, c, rfl, h1, _, _, h2, h3, h4, rm3, m3⟩ := fputM_ok F rm2 rx (rv.mono m2) e
      exact ⟨a, C, dx, fs, rfl, h1, h2, h3, h4, q2 _ _ _ m3 rm3 (re.mono ((m1.trans m2).trans m3))⟩⟩

/-! ### op= -/
def ipO [DecidableEq Str] [DecidableEq Key] [DecidableEq String] [(α : Type) → GetElem? (List α) Nat α fun l i => i < l.length] [(α : Type) → Append (List α)] [(i j : Int) → Decidable (i < j)] [(i j : Int) → Decidable (i ≤ j)] (op : Operator) (d e : D) : Option D := match op, d, e with
  | .Add, .int i, .int j => some (.int (i + j))
  | .Sub, .int i, .int j => some (.int (i - j))
  | _, _, _ => none
def rIp [DecidableEq Str] [DecidableEq Key] [DecidableEq String] [(α : Type) → GetElem? (List α) Nat α fun l i => i < l.length] [(α : Type) → Append (List α)] [(i j : Int) → Decidable (i < j)] [(i j : Int) → Decidable (i ≤ j)] (op : Operator) : V → V → Hp → VK → Prop := fun x y H Q => match op with
  | .Add => rAdd x y H Q
  | .Sub => rSub x y H Q
  | _ => False
theorem in_op (op : Operator) : InOp X op (rIp op) := by
  cases op with
  | Add => exact in_add
  | Sub => exact in_sub
  | _ => exact fun pins s σ H x y u v Q I rx ry h => h.elim
theorem ip_op (op : Operator) : PIp X op (rIp op) := fun pins s σ H x y v u Q I r1 r2 h => in_op op pins s σ H x y v u Q I r1 r2 h
theorem ipO_ok {op : Operator} {d e r : D} {x y : V} {Q : VK} (hx : Rep (pw X) ι H x d) (hy : Rep (pw X) ι H y e) (h : ipO op d e = some r) (q : ∀ z, Rep (pw X) ι H z r → Q z H) : rIp op x y H Q := by
  unfold ipO at h
  split at h
  · cases h
    cases hx
    cases hy
    exact ⟨_, _, rfl, rfl, q _ (.int _)⟩
  · cases h
    cases hx
    cases hy
    exact ⟨_, _, rfl, rfl, q _ (.int _)⟩
  · cases h
def augNS [DecidableEq Str] [DecidableEq Key] [DecidableEq String] [(α : Type) → GetElem? (List α) Nat α fun l i => i < l.length] [(α : Type) → Append (List α)] [(i j : Int) → Decidable (i < j)] [(i j : Int) → Decidable (i ≤ j)] (i : Nat) (op : Operator) (de : ED) : SD := fun ρ M => match ρ[i]? with
  | some (some x) => (de ρ M).toS ρ fun y M1 => match ipO op x y with
    | some z => .nx (ρ.set i (some z)) M1
    | none => .no
  | _ => .no
theorem qs_augN {i : Nat} {x : Str} {op : Operator} (hN : X.N.Nodup) (hi : X.N[i]? = some x) (hx : Loc X.env.scope x) (he : PE X e (rE X W da)) (hf : X.fn x = true ∨ X.env.scope.names.lookup x = some .local) :
    PS X (.AugAssign (.Name x pos') op e pos) (rS X W (augNS i op da)) := (ps_aug hN hi hx he (ip_op op) hf).imp fun E σ H ⟨ι, ρ, M, rm, re, q⟩ => by
  unfold augNS at q
  split at q
  · rename_i d ed
    obtain ⟨v, e1, r⟩ := re.2 i d ed
    refine ⟨v, e1, ι, ρ, M, rm, re, (PostS.part q re).imp fun y H1 ⟨ι1, d1, M1, m1, rm1, ry, q1⟩ => ?_⟩
    cases ei : ipO op d d1 with
    | none => rw [ei] at q1; exact q1.elim
    | some z =>
      rw [ei] at q1
      exact ipO_ok (r.mono m1) ry ei fun zv rz => q1 _ _ _ .refl rm1 ((re.mono m1).set rz)
  · exact q.elim
/-- a field, read -/
def fgetM [DecidableEq Str] [DecidableEq Key] [DecidableEq String] [(α : Type) → GetElem? (List α) Nat α fun l i => i < l.length] [(α : Type) → Append (List α)] [(i j : Int) → Decidable (i < j)] [(i j : Int) → Decidable (i ≤ j)] (g : Pg) (f : Str) (M : Store) (x : D) : Option D := match x with
  | .ref r => (match M[r]? with
    | some (.ins c fs) => (match g.cls.lookup c with
      | some i => if f ∈ i.fields then fs.lookup f else none
      | none => none)
    | _ => none)
  | _ => none
theorem fgetM_ok (F : Facts X g) {f : Str} {x v : D} {xv : V} (rm : RepM (pw X) ι H M) (hx : Rep (pw X) ι H xv x) (e : fgetM g f M x = some v) :
    ∃ a C dx fs vv c, xv = .ref a ∧ H a = some (.ins C dx fs) ∧ fcls M x = some c ∧ C = He.ga X.K c ∧ Cls X.K C ∧ NoAttr X.K C f ∧ fs.lookup f = some vv ∧ Rep (pw X) ι H vv v := by
  unfold fgetM at e
  split at e
  · rename_i r
    cases hx with
    | @ref a _ hi =>
    split at e
    · rename_i c fs q
      obtain ⟨dx, vs, ha, l⟩ := rm.at_ r a _ hi q
      split at e
      · rename_i ci hc
        obtain ⟨_, cl, _, hn, _⟩ := F.cls c ci hc
        split at e
        · rename_i hf
          have hl := l.lookup f
          rw [e] at hl
          obtain ⟨vv, h1, h2⟩ := hl
          exact ⟨a, _, dx, vs, vv, c, rfl, ha, by unfold fcls; dsimp only; rw [q], rfl, cl, hn f hf, h1, h2⟩
        · cases e
      · cases e
    · cases e
  · cases e
def augFS [DecidableEq Str] [DecidableEq Key] [DecidableEq String] [(α : Type) → GetElem? (List α) Nat α fun l i => i < l.length] [(α : Type) → Append (List α)] [(i j : Int) → Decidable (i < j)] [(i j : Int) → Decidable (i ≤ j)] (g : Pg) (f : Str) (op : Operator) (do_ de : ED) : SD := fun ρ M => (do_ ρ M).toS ρ fun x M1 => match fgetM g f M1 x with
  | some d => (de ρ M1).toS ρ fun y M2 => (match (ipO op d y).bind fun z => if fcls M2 x = fcls M1 x then fputM g f M2 x z else none with
    | some M3 => .nx ρ M3
    | none => .no)
  | none => .no
theorem qs_augF (F : Facts X g) {f : Str} {op : Operator} {do_ de : ED} (ho : PE X o (rE X W do_)) (he : PE X e (rE X W de)) : PS X (.AugAssign (.Attribute o f tpos) op e pos) (rS X W (augFS g f op do_ de)) :=
  (ps_fldaug ho he (in_op op)).imp fun E σ H ⟨ι, ρ, M, rm, re, q⟩ => ⟨ι, ρ, M, rm, re, (PostS.part q re).imp fun x H1 ⟨ι1, x', M1, m1, rm1, rx, q1⟩ => by
    cases ef : fgetM g f M1 x' with
    | none => rw [ef] at q1; exact q1.elim
    | some d =>
      rw [ef] at q1
      obtain ⟨a, C, dx, fs, vv, c, rfl, h1, hc1, hC1, h2, h3, h4, rv⟩ := fgetM_ok F rm1 rx ef
      refine ⟨a, C, dx, fs, vv, rfl, h1, h2, h3, h4, ι1, ρ, M1, rm1, re.mono m1, (PostS.part q1 (re.mono m1)).imp fun y H2 ⟨ι2, y', M2, m2, rm2, ry, q2⟩ => ?_⟩
      cases ei : ipO op d y' with
      | none => rw [ei] at q2; exact q2.elim
      | some z =>
        rw [ei] at q2
        have q2 : PostS (pw X) ι2 H2 E W (match (if fcls M2 x' = fcls M1 x' then fputM g f M2 x' z else none) with | some M3 => .nx ρ M3 | none => .no) := q2
        by_cases hcc : fcls M2 x' = fcls M1 x'
        · rw [if_pos hcc] at q2
          refine ipO_ok (rv.mono m2) ry ei fun zv rz => ?_
          cases ep : fputM g f M2 x' z with
          | none => rw [ep] at q2; exact q2.elim
          | some M3 =>
            rw [ep] at q2
            obtain ⟨a', C', dx', fs', c', ea, g1, hc2, hC2, g2, g3, g4, rm3, m3⟩ := fputM_ok F rm2 (rx.mono m2) rz ep
            cases ea
            have eC : C' = C := by
              rw [hC1, hC2]
              rw [hc1, hc2] at hcc
              cases hcc
              rfl
            subst eC
            exact ⟨dx', fs', g1, g4, q2 _ _ _ m3 rm3 (re.mono ((m1.trans m2).trans m3))⟩
        · rw [if_neg hcc] at q2
          exact q2.elim⟩
def refOf [DecidableEq Str] [DecidableEq Key] [DecidableEq String] [(α : Type) → GetElem? (List α) Nat α fun l i => i < l.length] [(α : Type) → Append (List α)] [(i j : Int) → Decidable (i < j)] [(i j : Int) → Decidable (i ≤ j)] : D → Option Nat
  | .ref r => some r
  | _ => none
theorem refOf_eq {d : D} {r : Nat} (h : refOf d = some r) : d = .ref r := by
  cases d <;> first | (cases h; rfl) | cases h
def augSS [DecidableEq Str] [DecidableEq Key] [DecidableEq String] [(α : Type) → GetElem? (List α) Nat α fun l i => i < l.length] [(α : Type) → Append (List α)] [(i j : Int) → Decidable (i < j)] [(i j : Int) → Decidable (i ≤ j)] (op : Operator) (do_ di de : ED) : SD := fun ρ M => (do_ ρ M).toS ρ fun x M1 => (di ρ M1).toS ρ fun k M2 => match (refOf x).bind fun r => (dget M2 r k).bind id |>.map fun d => (r, d) with
  | some rd => (de ρ M2).toS ρ fun y M3 => (match (ipO op rd.2 y).bind fun z => dputM M3 rd.1 k z with
      | some M4 => .nx ρ M4
      | none => .no)
  | none => .no
theorem qs_augS {op : Operator} {do_ di de : ED} (hu : X.A.units + 1 < cLine) (ho : PE X o (rE X W do_)) (hi : PE X i (rE X W di)) (he : PE X e (rE X W de))
    (ha : ∀ ov iv new, augStore i ov iv new = (do holding [new, ov, iv] (setItem ov iv new); release [new, ov, iv] []; pure .next)) : PS X (.AugAssign (.Subscript o i tpos) op e pos) (rS X W (augSS op do_ di de)) :=
  (ps_daug hu ho hi he (in_op op) ha).imp fun E σ H ⟨ι, ρ, M, rm, re, q⟩ => ⟨ι, ρ, M, rm, re, (PostS.part q re).imp fun x H1 ⟨ι1, x', M1, m1, rm1, rx, q1⟩ => by
    refine ⟨ι1, ρ, M1, rm1, re.mono m1, (PostS.part q1 (re.mono m1)).imp fun k H2 ⟨ι2, k', M2, m2, rm2, rk, q2⟩ => ?_⟩
    cases er : refOf x' with
    | none => rw [er] at q2; exact q2.elim
    | some r =>
      cases refOf_eq er
      rw [er] at q2
      cases eg : dget M2 r k' with
      | none =>
        have q3 : PostS (pw X) ι2 H2 E W (match ((dget M2 r k').bind id).map fun d => (r, d) with | some rd => (de ρ M2).toS ρ fun y M3 => (match (ipO op rd.2 y).bind fun z => dputM M3 rd.1 k' z with | some M4 => .nx ρ M4 | none => .no) | none => .no) := q2
        rw [eg] at q3
        exact q3.elim
      | some od =>
        have q3 : PostS (pw X) ι2 H2 E W (match ((dget M2 r k').bind id).map fun d => (r, d) with | some rd => (de ρ M2).toS ρ fun y M3 => (match (ipO op rd.2 y).bind fun z => dputM M3 rd.1 k' z with | some M4 => .nx ρ M4 | none => .no) | none => .no) := q2
        rw [eg] at q3
        cases od with
        | none => exact q3.elim
        | some d =>
          have q3 : PostS (pw X) ι2 H2 E W ((de ρ M2).toS ρ fun y M3 => (match (ipO op d y).bind fun z => dputM M3 r k' z with | some M4 => .nx ρ M4 | none => .no)) := q3
          obtain ⟨a, ov, ea, hg, _, hd⟩ := dget_ok rm2 (rx.mono m2) rk eg
          obtain ⟨v, eo, rv⟩ := hd d rfl
          subst eo
          refine ⟨a, v, ea, hg, ι2, ρ, M2, rm2, re.mono (m1.trans m2), (PostS.part q3 (re.mono (m1.trans m2))).imp fun y H3 ⟨ι3, y', M3, m3, rm3, ry, q4⟩ => ?_⟩
          cases ei : ipO op d y' with
          | none => rw [ei] at q4; exact q4.elim
          | some z =>
            rw [ei] at q4
            have q4 : PostS (pw X) ι3 H3 E W (match dputM M3 r k' z with | some M4 => .nx ρ M4 | none => .no) := q4
            refine ipO_ok (rv.mono m3) ry ei fun zv rz => ?_
            cases ep : dputM M3 r k' z with
            | none => rw [ep] at q4; exact q4.elim
            | some M4 =>
              rw [ep] at q4
              obtain ⟨a', H', ea', hp, rm4, m4⟩ := dputM_ok rm3 ((rx.mono m2).mono m3) (rk.mono m3) rz ep
              rw [ea] at ea'
              cases ea'
              exact ⟨H', hp, q4 _ _ _ m4 rm4 (re.mono (((m1.trans m2).trans m3).trans m4))⟩⟩
end
end Ev
set_option Elab.async false
set_option linter.all false
set_option maxRecDepth 100000
set_option maxHeartbeats 4000000
/-! Iterators, loops, comprehensions. -/
namespace Ev
open PySem PySem.Spec PyProof.Rows L2

inductive IT where
  | lst (r : Nat) | tup (ds : List D) | rng (lo : Int) (n : Nat) | str (x : Str)
  | enum (r : Nat) | zipL (r q : Nat) | zipT (ds es : List D) | revL (r n : Nat) | revT (ds : List D)
  | keysK (r : Nat) (kvs : List (Key × D)) | keysT (r : Nat) (kvs : List (List Key × D)) | valsK (r : Nat) (kvs : List (Key × D)) | itemsK (r : Nat) (kvs : List (Key × D)) | itemsT (r : Nat) (kvs : List (List Key × D)) | zip (a b : Nat → Store → Option (Option D))
def keyD [DecidableEq Str] [DecidableEq Key] [DecidableEq String] [(α : Type) → GetElem? (List α) Nat α fun l i => i < l.length] [(α : Type) → Append (List α)] [(i j : Int) → Decidable (i < j)] [(i j : Int) → Decidable (i ≤ j)] : Key → D
  | .inl i => .int i
  | .inr x => .str x
def lkKAt [DecidableEq Str] [DecidableEq Key] [DecidableEq String] [(α : Type) → GetElem? (List α) Nat α fun l i => i < l.length] [(α : Type) → Append (List α)] [(i j : Int) → Decidable (i < j)] [(i j : Int) → Decidable (i ≤ j)] (M : Store) (r : Nat) : Bool := match M[r]? with
  | some (.lkK _) => true
  | _ => false
def lkTAt [DecidableEq Str] [DecidableEq Key] [DecidableEq String] [(α : Type) → GetElem? (List α) Nat α fun l i => i < l.length] [(α : Type) → Append (List α)] [(i j : Int) → Decidable (i < j)] [(i j : Int) → Decidable (i ≤ j)] (M : Store) (r : Nat) : Bool := match M[r]? with
  | some (.lkT _) => true
  | _ => false
/-- none: no claim; some none: it stops -/
def nextI [DecidableEq Str] [DecidableEq Key] [DecidableEq String] [(α : Type) → GetElem? (List α) Nat α fun l i => i < l.length] [(α : Type) → Append (List α)] [(i j : Int) → Decidable (i < j)] [(i j : Int) → Decidable (i ≤ j)] (it : IT) (i : Nat) (M : Store) : Option (Option D) := match it with
  | .lst r => (lstRd M r).map fun xs => xs[i]?
  | .tup xs => some xs[i]?
  | .rng lo n => some (if i < n then some (.int (lo + i)) else none)
  | .str x => some ((x.cps[i]?).map fun c => .str ⟨#[c]⟩)
  | .enum r => (lstRd M r).map fun xs => xs[i]?.map fun x => .tup [.int (i : Nat), x]
  | .zipL r q => (match lstRd M r, lstRd M q with
    | some xs, some ys => some (match xs[i]?, ys[i]? with
      | some x, some y => some (.tup [x, y])
      | _, _ => none)
    | _, _ => none)
  | .zipT xs ys => some (match xs[i]?, ys[i]? with
      | some x, some y => some (.tup [x, y])
      | _, _ => none)
  | .revL r n => if i < n then (match lstRd M r with
      | some xs => (match xs[n - 1 - i]? with
        | some x => some (some x)
        | none => none)
      | none => none) else some none
  | .revT xs => some (if i < xs.length then xs[xs.length - 1 - i]? else none)
  | .keysK _ kvs => some (kvs[i]?.map fun kv => keyD kv.1)
  | .keysT _ kvs => some (kvs[i]?.map fun kv => .tup (kv.1.map keyD))
  | .valsK _ kvs => some (kvs[i]?.map fun kv => kv.2)
  | .itemsK _ kvs => some (kvs[i]?.map fun kv => .tup [keyD kv.1, kv.2])
  | .zip a b => (match a i M, b i M with
    | some x, some y => some (match x, y with
      | some x, some y => some (.tup [x, y])
      | _, _ => none)
    | _, _ => none)
  | .itemsT _ kvs => some (kvs[i]?.map fun kv => .tup [.tup (kv.1.map keyD), kv.2])
/-- the layer's iterator is this one -/
def SimI [DecidableEq Str] [DecidableEq Key] [DecidableEq String] [(α : Type) → GetElem? (List α) Nat α fun l i => i < l.length] [(α : Type) → Append (List α)] [(i j : Int) → Decidable (i < j)] [(i j : Int) → Decidable (i ≤ j)] (p : Pw) (ι0 : List Addr) (H0 : Hp) (J : It) (it : IT) : Prop := ∀ ι H M i, Mono ι0 H0 ι H → RepM p ι H M → match nextI it i M with
  | none => True
  | some none => J.stop i H
  | some (some d) => J.go i H ∧ ∀ x H', J.yld i H x H' → RepM p ι H' M ∧ Mono ι H ι H' ∧ Rep p ι H' x d
abbrev ID := Env1 → Store → R IT
def rI [DecidableEq Str] [DecidableEq Key] [DecidableEq String] [(α : Type) → GetElem? (List α) Nat α fun l i => i < l.length] [(α : Type) → Append (List α)] [(i j : Int) → Decidable (i < j)] [(i j : Int) → Decidable (i ≤ j)] (X : Cx) (W : WX) (d : ID) : TI := fun σ H R => ∃ ι ρ M, RepM (pw X) ι H M ∧ RepE (pw X) ι H σ ρ ∧ Post (pw X) ι H (SimI (pw X)) R (WE W σ) (d ρ M)

section
variable {p : Pw} {ι : List Addr} {H : Hp} {M : Store}
theorem SqL.at_mono {ι0 : List Addr} {H0 : Hp} {r : Nat} {a : Addr} {ds : List D} (ha : ι0[r]? = some a) (m : Mono ι0 H0 ι H) (rm : RepM p ι H M) (e : lstRd M r = some ds) : ∃ vs, (∀ K, SqL K H a vs) ∧ RepL p ι H vs ds := by
  obtain ⟨a', vs, e1, hq, l⟩ := lstRd_at rm (.ref (m.at_ ha)) e
  cases e1
  exact ⟨vs, hq, l⟩
/-- what a list at a is, by its Sq -/
theorem sim_lst {K : PySem.W.Frag} {r : Nat} {a : Addr} (ha : ι[r]? = some a) : SimI p ι H (Itl K a) (.lst r) := fun ι1 H1 M1 i m rm => by
  unfold nextI
  dsimp only
  cases e : lstRd M1 r with
  | none => simp only [Option.map_none]
  | some ds =>
    obtain ⟨vs, hq, l⟩ := SqL.at_mono ha m rm e
    simp only [Option.map_some]
    cases e2 : ds[i]? with
    | none =>
      refine ⟨vs, hq K, ?_⟩
      have := List.getElem?_eq_none_iff.mp e2
      rw [l.length]
      exact this
    | some d =>
      obtain ⟨v, e3, rv⟩ := l.get e2
      refine ⟨⟨vs, v, hq K, e3⟩, fun x H' ⟨e4, e5⟩ => ?_⟩
      subst e4
      have e6 := e5 vs (hq K)
      rw [e3] at e6
      cases e6
      exact ⟨rm, .refl, rv⟩
theorem SqT.now {K : PySem.W.Frag} {a : Addr} {vs : List V} (h : H a = some (.tup vs) ∨ KTup K a vs) : SqT K H a vs := h.elim (fun h => .inl (.inl h)) fun h => h.sq
theorem SqT.mono {K : PySem.W.Frag} {ι' : List Addr} {H' : Hp} {a : Addr} {vs : List V} (h : H a = some (.tup vs) ∨ KTup K a vs) (m : Mono ι H ι' H') : SqT K H' a vs := h.elim (fun h => .inl (.inl (m.tup a vs h))) fun h => h.sq
theorem tup_of {K : PySem.W.Frag} {v : V} {d : D} {ds : List D} (hK : p.K = K) (h : Rep p ι H v d) (e : d = .tup ds ∨ d = .kt ds) : ∃ a vs, v = .ref a ∧ (H a = some (.tup vs) ∨ KTup K a vs) ∧ RepL p ι H vs ds := by
  subst hK
  rcases e with e | e <;> subst e
  · cases h with
    | tup h l => exact ⟨_, _, rfl, .inl h, l⟩
  · cases h with
    | kt h l => exact ⟨_, _, rfl, .inr h, l⟩
theorem sim_tup {K : PySem.W.Frag} {a : Addr} {vs : List V} {ds : List D} (h : H a = some (.tup vs) ∨ KTup K a vs) (l : RepL p ι H vs ds) : SimI p ι H (Itt K a) (.tup ds) := fun ι1 H1 M1 i m rm => by
  unfold nextI
  dsimp only
  have hq := SqT.mono h m
  have l := l.mono m
  cases e2 : ds[i]? with
  | none => exact ⟨vs, hq, by rw [l.length]; exact List.getElem?_eq_none_iff.mp e2⟩
  | some d =>
    obtain ⟨v, e3, rv⟩ := l.get e2
    refine ⟨⟨vs, v, hq, e3⟩, fun x H' ⟨e4, e5⟩ => ?_⟩
    subst e4
    have e6 := e5 vs hq
    rw [e3] at e6
    cases e6
    exact ⟨rm, .refl, rv⟩
theorem sim_rng {lo : Int} {n : Nat} : SimI p ι H (Itr lo n) (.rng lo n) := fun ι1 H1 M1 i m rm => by
  unfold nextI
  dsimp only
  by_cases h : i < n
  · rw [if_pos h]
    refine ⟨h, fun x H' ⟨e1, e2⟩ => ?_⟩
    subst e1; subst e2
    exact ⟨rm, .refl, .int _⟩
  · rw [if_neg h]
    exact Nat.le_of_not_lt h
theorem sim_str {x : Str} : SimI p ι H (Its x) (.str x) := fun ι1 H1 M1 i m rm => by
  unfold nextI
  dsimp only
  cases e : x.cps[i]? with
  | none => exact Array.getElem?_eq_none_iff.mp e
  | some c =>
    refine ⟨(Array.getElem?_eq_some_iff.mp e).1, fun v H' ⟨e1, c', e2, e3⟩ => ?_⟩
    subst e1; subst e3
    rw [e] at e2
    cases e2
    exact ⟨rm, .refl, .str _⟩
/-- a new pair -/
theorem pair_new {T : Addr} {v w : V} {d e : D} (rm : RepM p ι H M) (hT : H T = none) (rv : Rep p ι H v d) (rw' : Rep p ι H w e) : RepM p ι (upd H T (.tup [v, w])) M ∧ Mono ι H ι (upd H T (.tup [v, w])) ∧ Rep p ι (upd H T (.tup [v, w])) (.ref T) (.tup [d, e]) := by
  obtain ⟨rm2, m2⟩ := rm.upd_new (u := .tup [v, w]) hT
  exact ⟨rm2, m2, .tup upd_same (.cons (rv.mono m2) (.cons (rw'.mono m2) .nil))⟩
theorem sim_enum {K : PySem.W.Frag} {r : Nat} {a : Addr} (ha : ι[r]? = some a) : SimI p ι H (Ite K a) (.enum r) := fun ι1 H1 M1 i m rm => by
  unfold nextI
  dsimp only
  cases e : lstRd M1 r with
  | none => simp only [Option.map_none]
  | some ds =>
    obtain ⟨vs, hq, l⟩ := SqL.at_mono ha m rm e
    simp only [Option.map_some]
    cases e2 : ds[i]? with
    | none => exact ⟨vs, hq K, by rw [l.length]; exact List.getElem?_eq_none_iff.mp e2⟩
    | some d =>
      obtain ⟨v, e3, rv⟩ := l.get e2
      refine ⟨⟨vs, v, hq K, e3⟩, fun x H' ⟨T, y, e4, e5, e6, e7⟩ => ?_⟩
      subst e4; subst e6
      have e8 := e7 vs (hq K)
      rw [e3] at e8
      cases e8
      exact pair_new rm e5 (.int _) rv
theorem sim_zipL {K : PySem.W.Frag} {r q : Nat} {a b : Addr} (ha : ι[r]? = some a) (hb : ι[q]? = some b) : SimI p ι H (Itz K a b) (.zipL r q) := fun ι1 H1 M1 i m rm => by
  unfold nextI
  dsimp only
  cases e : lstRd M1 r with
  | none => simp only [Option.map_none]
  | some ds =>
    cases e' : lstRd M1 q with
    | none => trivial
    | some es =>
      obtain ⟨vs, hq, l⟩ := SqL.at_mono ha m rm e
      obtain ⟨ws, hq', l'⟩ := SqL.at_mono hb m rm e'
      dsimp only
      cases e2 : ds[i]? with
      | none => exact ⟨vs, ws, hq K, hq' K, .inl (by rw [l.length]; exact List.getElem?_eq_none_iff.mp e2)⟩
      | some d =>
        cases e3 : es[i]? with
        | none => exact ⟨vs, ws, hq K, hq' K, .inr (by rw [l'.length]; exact List.getElem?_eq_none_iff.mp e3)⟩
        | some d' =>
          obtain ⟨v, e4, rv⟩ := l.get e2
          obtain ⟨v', e4', rv'⟩ := l'.get e3
          refine ⟨⟨vs, ws, v, v', hq K, hq' K, e4, e4'⟩, fun x H' ⟨T, y, y', e5, e6, e7, e8, e9⟩ => ?_⟩
          subst e5; subst e7
          have g1 := e8 vs (hq K)
          have g2 := e9 ws (hq' K)
          rw [e4] at g1
          rw [e4'] at g2
          cases g1
          cases g2
          exact pair_new rm e6 rv rv'
theorem sim_zipT {K : PySem.W.Frag} {a b : Addr} {vs ws : List V} {ds es : List D} (h : H a = some (.tup vs) ∨ KTup K a vs) (l : RepL p ι H vs ds) (h' : H b = some (.tup ws) ∨ KTup K b ws) (l' : RepL p ι H ws es) : SimI p ι H (RZ.ItzT K a b) (.zipT ds es) := fun ι1 H1 M1 i m rm => by
  unfold nextI
  dsimp only
  have hq := SqT.mono h m
  have hq' := SqT.mono h' m
  have l := l.mono m
  have l' := l'.mono m
  cases e2 : ds[i]? with
  | none => exact ⟨vs, ws, hq, hq', .inl (by rw [l.length]; exact List.getElem?_eq_none_iff.mp e2)⟩
  | some d =>
    cases e3 : es[i]? with
    | none => exact ⟨vs, ws, hq, hq', .inr (by rw [l'.length]; exact List.getElem?_eq_none_iff.mp e3)⟩
    | some d' =>
      obtain ⟨v, e4, rv⟩ := l.get e2
      obtain ⟨v', e4', rv'⟩ := l'.get e3
      refine ⟨⟨vs, ws, v, v', hq, hq', e4, e4'⟩, fun x H' ⟨T, y, y', e5, e6, e7, e8, e9⟩ => ?_⟩
      subst e5; subst e7
      have g1 := e8 vs hq
      have g2 := e9 ws hq'
      rw [e4] at g1
      rw [e4'] at g2
      cases g1
      cases g2
      exact pair_new rm e6 rv rv'
theorem sim_revL {K : PySem.W.Frag} {r n : Nat} {a : Addr} (ha : ι[r]? = some a) : SimI p ι H (Itv K a n) (.revL r n) := fun ι1 H1 M1 i m rm => by
  unfold nextI
  dsimp only
  by_cases h : i < n
  · rw [if_pos h]
    cases e : lstRd M1 r with
    | none => trivial
    | some ds =>
      obtain ⟨vs, hq, l⟩ := SqL.at_mono ha m rm e
      dsimp only
      cases e2 : ds[n - 1 - i]? with
      | none => trivial
      | some d =>
        obtain ⟨v, e3, rv⟩ := l.get e2
        refine ⟨⟨h, vs, v, hq K, e3⟩, fun x H' ⟨e4, e5⟩ => ?_⟩
        subst e4
        have e6 := e5 vs (hq K)
        rw [e3] at e6
        cases e6
        exact ⟨rm, .refl, rv⟩
  · rw [if_neg h]
    exact Nat.le_of_not_lt h
theorem sim_revT {K : PySem.W.Frag} {a : Addr} {vs : List V} {ds : List D} (h : H a = some (.tup vs) ∨ KTup K a vs) (l : RepL p ι H vs ds) : SimI p ι H (RT.ItvT K a vs.length) (.revT ds) := fun ι1 H1 M1 i m rm => by
  unfold nextI
  dsimp only
  have hq := SqT.mono h m
  have l := l.mono m
  have hl := l.length
  by_cases h : i < ds.length
  · rw [if_pos h]
    have hlt : ds.length - 1 - i < ds.length := by omega
    rw [List.getElem?_eq_getElem hlt]
    obtain ⟨v, e3, rv⟩ := l.get (List.getElem?_eq_getElem hlt)
    rw [← hl] at e3
    refine ⟨⟨by rw [hl]; exact h, vs, v, hq, e3⟩, fun x H' ⟨e4, e5⟩ => ?_⟩
    subst e4
    have e6 := e5 vs hq
    rw [e3] at e6
    cases e6
    exact ⟨rm, .refl, rv⟩
  · rw [if_neg h]
    show vs.length ≤ i
    rw [hl]
    exact Nat.le_of_not_lt h
end

section
variable {X : Cx} {W : WX} {g : Pg} {a b c e e2 tg : Expr} {es rest : List Expr} {da db dc dd : ED} {dr : AD} {pos apos pos' p : Pos} {pins : List (Addr × Obj)} {σ : L2.St} {H : Hp} {s : Shared} {ι : List Addr} {ρ : Env1} {M : Store} {st : Stmt} {sts body orelse : List Stmt} {ds dt : SD} {tc : TD} {di : ID} {gd : GD} {ks vs : List Nat}
theorem _root_.L2.PI.imp {t t' : TI} (h : PI X tg e t) (k : ∀ σ H R, t' σ H R → t σ H R) : PI X tg e t' := ⟨fun pins s σ H R I q => h.run pins s σ H R I (k σ H R q)⟩
theorem _root_.L2.PI.three {t1 t2 t3 u : TI} (h1 : PI X tg e t1) (h2 : PI X tg e t2) (h3 : PI X tg e t3) (k : ∀ σ H R, u σ H R → t1 σ H R ∨ t2 σ H R ∨ t3 σ H R) : PI X tg e u := ⟨fun pins s σ H R I q => by
  rcases k σ H R q with q | q | q
  · exact h1.run pins s σ H R I q
  · exact h2.run pins s σ H R I q
  · exact h3.run pins s σ H R I q⟩
/-- a value, walked -/
def iterOf [DecidableEq Str] [DecidableEq Key] [DecidableEq String] [(α : Type) → GetElem? (List α) Nat α fun l i => i < l.length] [(α : Type) → Append (List α)] [(i j : Int) → Decidable (i < j)] [(i j : Int) → Decidable (i ≤ j)] (d : D) (M : Store) : R IT := match d with
  | .ref r => if (lstRd M r).isSome then .ok (.lst r) M else .no
  | .tup xs => .ok (.tup xs) M
  | .kt xs => .ok (.tup xs) M
  | .str x => .ok (.str x) M
  | _ => .no
def iterI [DecidableEq Str] [DecidableEq Key] [DecidableEq String] [(α : Type) → GetElem? (List α) Nat α fun l i => i < l.length] [(α : Type) → Append (List α)] [(i j : Int) → Decidable (i < j)] [(i j : Int) → Decidable (i ≤ j)] (da : ED) : ID := fun ρ M => (da ρ M).bind iterOf
theorem isSome_some {α : Type} {o : Option α} (h : o.isSome = true) : ∃ x, o = some x := Option.isSome_iff_exists.mp h
theorem qi_any (he : PE X e (rE X W da)) : PI X tg e (rI X W (iterI da)) := PI.three (pi_list he) (pi_tup he) (pi_str he) fun σ H R ⟨ι, ρ, M, rm, re, q⟩ => by
  unfold iterI at q
  have q2 := Post.bind (rel := Rep (pw X)) q
  cases ed : da ρ M with
  | no => rw [ed] at q2; exact q2.elim
  | ex C fs M1 => rw [ed] at q2; exact .inl ⟨ι, ρ, M, rm, re, by rw [ed]; exact q2⟩
  | ok d M1 =>
    rw [ed] at q2
    have go : ∀ {Q' : VK}, (∀ ι1 H1 v, Mono ι H ι1 H1 → RepM (pw X) ι1 H1 M1 → Rep (pw X) ι1 H1 v d → Post (pw X) ι1 H1 (SimI (pw X)) R (WE W σ) (iterOf d M1) → Q' v H1) → Post (pw X) ι H (Rep (pw X)) Q' (WE W σ) (da ρ M) := fun {Q'} h => by
      rw [ed]
      intro ι1 H1 v m1 rm1 rv
      exact h ι1 H1 v m1 rm1 rv (Post.mono (show Post (pw X) ι H (SimI (pw X)) R (WE W σ) (iterOf d M1) from by rw [ed] at q; exact q) m1)
    cases d with
    | ref r =>
      refine .inl ⟨ι, ρ, M, rm, re, go fun ι1 H1 v m1 rm1 rv q1 => ?_⟩
      unfold iterOf at q1
      dsimp only at q1
      split at q1
      · rename_i hs
        obtain ⟨xs, ex⟩ := isSome_some hs
        cases rv with
        | ref hi =>
        obtain ⟨a', vs', e1, hq, l⟩ := lstRd_at rm1 (.ref hi) ex
        cases e1
        exact ⟨_, rfl, ⟨vs', hq _⟩, q1 ι1 H1 _ .refl rm1 (sim_lst hi)⟩
      · exact q1.elim
    | tup xs =>
      refine .inr (.inl ⟨ι, ρ, M, rm, re, go fun ι1 H1 v m1 rm1 rv q1 => ?_⟩)
      obtain ⟨a', vs', e1, h, l⟩ := tup_of (K := X.K) rfl rv (.inl rfl)
      exact ⟨a', e1, ⟨vs', SqT.now h⟩, q1 ι1 H1 _ .refl rm1 (sim_tup h l)⟩
    | kt xs =>
      refine .inr (.inl ⟨ι, ρ, M, rm, re, go fun ι1 H1 v m1 rm1 rv q1 => ?_⟩)
      obtain ⟨a', vs', e1, h, l⟩ := tup_of (K := X.K) rfl rv (.inr rfl)
      exact ⟨a', e1, ⟨vs', SqT.now h⟩, q1 ι1 H1 _ .refl rm1 (sim_tup h l)⟩
    | str x =>
      refine .inr (.inr ⟨ι, ρ, M, rm, re, go fun ι1 H1 v m1 rm1 rv q1 => ?_⟩)
      cases rv
      exact ⟨x, rfl, q1 ι1 H1 _ .refl rm1 sim_str⟩
    | non => exact .inl ⟨ι, ρ, M, rm, re, go fun ι1 H1 v m1 rm1 rv q1 => q1.elim⟩
    | bl _ => exact .inl ⟨ι, ρ, M, rm, re, go fun ι1 H1 v m1 rm1 rv q1 => q1.elim⟩
    | int _ => exact .inl ⟨ι, ρ, M, rm, re, go fun ι1 H1 v m1 rm1 rv q1 => q1.elim⟩
    | gl _ => exact .inl ⟨ι, ρ, M, rm, re, go fun ι1 H1 v m1 rm1 rv q1 => q1.elim⟩
    | ty _ => exact .inl ⟨ι, ρ, M, rm, re, go fun ι1 H1 v m1 rm1 rv q1 => q1.elim⟩

/-- range(..) -/
def rng1Of [DecidableEq Str] [DecidableEq Key] [DecidableEq String] [(α : Type) → GetElem? (List α) Nat α fun l i => i < l.length] [(α : Type) → Append (List α)] [(i j : Int) → Decidable (i < j)] [(i j : Int) → Decidable (i ≤ j)] (ds : List D) (M : Store) : R IT := match ds with
  | [.int j] => if -(2 ^ 62) ≤ j ∧ j < 2 ^ 62 then .ok (.rng 0 j.toNat) M else .no
  | _ => .no
def rng2Of [DecidableEq Str] [DecidableEq Key] [DecidableEq String] [(α : Type) → GetElem? (List α) Nat α fun l i => i < l.length] [(α : Type) → Append (List α)] [(i j : Int) → Decidable (i < j)] [(i j : Int) → Decidable (i ≤ j)] (ds : List D) (M : Store) : R IT := match ds with
  | [.int i, .int j] => if -(2 ^ 62) ≤ i ∧ i < 2 ^ 62 ∧ -(2 ^ 62) ≤ j ∧ j < 2 ^ 62 then .ok (.rng i (j - i).toNat) M else .no
  | _ => .no
def argI [DecidableEq Str] [DecidableEq Key] [DecidableEq String] [(α : Type) → GetElem? (List α) Nat α fun l i => i < l.length] [(α : Type) → Append (List α)] [(i j : Int) → Decidable (i < j)] [(i j : Int) → Decidable (i ≤ j)] (f : List D → Store → R IT) (dr : AD) : ID := fun ρ M => (dr ρ M).bind f
theorem qi_range1 (hg : Gl X "range") (hm : X.mg "range" = none) (ha : PA X [a] (rA X W dr)) (hs : starEach [a] X.env = [(false, eval a X.env)]) : PI X tg (.Call (.Name "range" p) [a] [] pos) (rI X W (argI rng1Of dr)) :=
  (pi_range1 hg hm ha hs).imp fun σ H R ⟨ι, ρ, M, rm, re, q⟩ => ⟨ι, ρ, M, rm, re, (Post.bind q).imp fun vs H1 ⟨ι1, ds, M1, m1, rm1, rv, q1⟩ => by
    unfold rng1Of at q1
    split at q1
    · split at q1
      · rename_i h
        cases rv with
        | cons r l =>
          cases l
          cases r
          exact ⟨_, rfl, h.1, h.2, q1 _ _ _ .refl rm1 sim_rng⟩
      · exact q1.elim
    · exact q1.elim⟩
theorem qi_range2 (hg : Gl X "range") (hm : X.mg "range" = none) (ha : PA X [a, b] (rA X W dr)) (hs : starEach [a, b] X.env = [(false, eval a X.env), (false, eval b X.env)]) (hs2 : starEach [b] X.env = [(false, eval b X.env)]) : PI X tg (.Call (.Name "range" p) [a, b] [] pos) (rI X W (argI rng2Of dr)) :=
  (pi_range2 hg hm ha hs hs2).imp fun σ H R ⟨ι, ρ, M, rm, re, q⟩ => ⟨ι, ρ, M, rm, re, (Post.bind q).imp fun vs H1 ⟨ι1, ds, M1, m1, rm1, rv, q1⟩ => by
    unfold rng2Of at q1
    split at q1
    · split at q1
      · rename_i h
        cases rv with
        | cons r l =>
          cases l with
          | cons r' l =>
            cases l
            cases r
            cases r'
            exact ⟨_, _, rfl, h, q1 _ _ _ .refl rm1 sim_rng⟩
      · exact q1.elim
    · exact q1.elim⟩
/-- enumerate(list) -/
def enumOf [DecidableEq Str] [DecidableEq Key] [DecidableEq String] [(α : Type) → GetElem? (List α) Nat α fun l i => i < l.length] [(α : Type) → Append (List α)] [(i j : Int) → Decidable (i < j)] [(i j : Int) → Decidable (i ≤ j)] (ds : List D) (M : Store) : R IT := match ds with
  | [.ref r] => if (lstRd M r).isSome then .ok (.enum r) M else .no
  | _ => .no
theorem qi_enum {elts : List Expr} {kk : Nat} {tpos : Pos} (hg : Gl X "enumerate") (hm : X.mg "enumerate" = none) (ha : PA X [e] (rA X W dr)) (hs : starEach [e] X.env = [(false, eval e X.env)]) : PI X (.Tuple elts kk tpos) (.Call (.Name "enumerate" p) [e] [] pos) (rI X W (argI enumOf dr)) :=
  (pi_enum hg hm ha hs).imp fun σ H R ⟨ι, ρ, M, rm, re, q⟩ => ⟨ι, ρ, M, rm, re, (Post.bind q).imp fun vs H1 ⟨ι1, ds, M1, m1, rm1, rv, q1⟩ => by
    unfold enumOf at q1
    split at q1
    · split at q1
      · rename_i h
        obtain ⟨xs, ex⟩ := isSome_some h
        cases rv with
        | cons r l =>
          cases l
          cases r with
          | ref hi =>
            obtain ⟨a', vs', e1, hq, l⟩ := lstRd_at rm1 (.ref hi) ex
            cases e1
            exact ⟨_, _, rfl, hq _, q1 _ _ _ .refl rm1 (sim_enum hi)⟩
      · exact q1.elim
    · exact q1.elim⟩
/-- zip of two lists, of two tuples -/
def tupOf [DecidableEq Str] [DecidableEq Key] [DecidableEq String] [(α : Type) → GetElem? (List α) Nat α fun l i => i < l.length] [(α : Type) → Append (List α)] [(i j : Int) → Decidable (i < j)] [(i j : Int) → Decidable (i ≤ j)] : D → Option (List D)
  | .tup xs => some xs
  | .kt xs => some xs
  | _ => none
theorem tupOf_eq {d : D} {xs : List D} (h : tupOf d = some xs) : d = .tup xs ∨ d = .kt xs := by
  cases d <;> first | (cases h; exact .inl rfl) | (cases h; exact .inr rfl) | cases h
def zipOf [DecidableEq Str] [DecidableEq Key] [DecidableEq String] [(α : Type) → GetElem? (List α) Nat α fun l i => i < l.length] [(α : Type) → Append (List α)] [(i j : Int) → Decidable (i < j)] [(i j : Int) → Decidable (i ≤ j)] (ds : List D) (M : Store) : R IT := match ds with
  | [.ref r, .ref q] => if (lstRd M r).isSome ∧ (lstRd M q).isSome then .ok (.zipL r q) M else .no
  | [x, y] => (match tupOf x, tupOf y with
    | some xs, some ys => .ok (.zipT xs ys) M
    | _, _ => .no)
  | _ => .no
theorem qi_zip {elts : List Expr} {kk : Nat} {tpos : Pos} (hg : Gl X "zip") (hm : X.mg "zip" = none) (ha : PA X [e, e2] (rA X W dr))
    (hs : starEach [e, e2] X.env = (false, eval e X.env) :: starEach [e2] X.env) (hpl : (backTo pos (starEach [e2] X.env)).any (·.1) = false) : PI X (.Tuple elts kk tpos) (.Call (.Name "zip" p) [e, e2] [] pos) (rI X W (argI zipOf dr)) :=
  (RZ.pi_zipA hg hm ha hs hpl).imp fun σ H R ⟨ι, ρ, M, rm, re, q⟩ => ⟨ι, ρ, M, rm, re, (Post.bind q).imp fun vs H1 ⟨ι1, ds, M1, m1, rm1, rv, q1⟩ => by
    unfold zipOf at q1
    split at q1
    · split at q1
      · rename_i h
        obtain ⟨xs, ex⟩ := isSome_some h.1
        obtain ⟨ys, ey⟩ := isSome_some h.2
        cases rv with
        | cons r l =>
          cases l with
          | cons r' l =>
            cases l
            cases r with
            | ref hi =>
            cases r' with
            | ref hj =>
              obtain ⟨a', vs', e1, hq, l⟩ := lstRd_at rm1 (.ref hi) ex
              obtain ⟨b', ws', e2, hq2, l2⟩ := lstRd_at rm1 (.ref hj) ey
              cases e1
              cases e2
              exact ⟨_, _, _, _, rfl, .inl ⟨hq _, hq2 _, q1 _ _ _ .refl rm1 (sim_zipL hi hj)⟩⟩
      · exact q1.elim
    · split at q1
      · rename_i xs ys ex ey
        cases rv with
        | cons r l =>
          cases l with
          | cons r' l =>
            cases l
            obtain ⟨a', vs', e1, h, l⟩ := tup_of (K := X.K) rfl r (tupOf_eq ex)
            obtain ⟨b', ws', e2, h2, l2⟩ := tup_of (K := X.K) rfl r' (tupOf_eq ey)
            subst e1; subst e2
            exact ⟨a', b', vs', ws', rfl, .inr ⟨SqT.now h, SqT.now h2, q1 _ _ _ .refl rm1 (sim_zipT h l h2 l2)⟩⟩
      · exact q1.elim
    · exact q1.elim⟩
/-- reversed(list), reversed(tuple) -/
def revOf [DecidableEq Str] [DecidableEq Key] [DecidableEq String] [(α : Type) → GetElem? (List α) Nat α fun l i => i < l.length] [(α : Type) → Append (List α)] [(i j : Int) → Decidable (i < j)] [(i j : Int) → Decidable (i ≤ j)] (d : D) (M : Store) : R IT := match d with
  | .ref r => (match lstRd M r with
    | some xs => .ok (.revL r xs.length) M
    | none => .no)
  | d => (match tupOf d with
    | some xs => .ok (.revT xs) M
    | none => .no)
theorem qi_rev (hg : Gl X "reversed") (hm : X.mg "reversed" = none) (he : PE X e (rE X W da)) (hs : starEach [e] X.env = (false, eval e X.env) :: starEach [] X.env) : PI X tg (.Call (.Name "reversed" p) [e] [] pos) (rI X W fun ρ M => (da ρ M).bind revOf) :=
  (RT.pi_revA hg hm he hs).imp fun σ H R ⟨ι, ρ, M, rm, re, q⟩ => ⟨ι, ρ, M, rm, re, (Post.bind q).imp fun v H1 ⟨ι1, d, M1, m1, rm1, rv, q1⟩ => by
    unfold revOf at q1
    split at q1
    · split at q1
      · rename_i xs ex
        cases rv with
        | ref hi =>
          obtain ⟨a', vs', e1, hq, l⟩ := lstRd_at rm1 (.ref hi) ex
          cases e1
          rw [← l.length] at q1
          exact ⟨_, vs', rfl, .inl ⟨hq _, q1 _ _ _ .refl rm1 (sim_revL hi)⟩⟩
      · exact q1.elim
    · split at q1
      · rename_i xs ex
        obtain ⟨a', vs', e1, h, l⟩ := tup_of (K := X.K) rfl rv (tupOf_eq ex)
        subst e1
        exact ⟨a', vs', rfl, .inr ⟨SqT.now h, q1 _ _ _ .refl rm1 (sim_revT h l)⟩⟩
      · exact q1.elim⟩
theorem qi_no : PI X tg e (rI X W fun _ _ => .no) := ⟨fun _ _ _ _ _ _ ⟨_, _, _, _, _, q⟩ => q.elim⟩

/-! ### for, while -/
def forL [DecidableEq Str] [DecidableEq Key] [DecidableEq String] [(α : Type) → GetElem? (List α) Nat α fun l i => i < l.length] [(α : Type) → Append (List α)] [(i j : Int) → Decidable (i < j)] [(i j : Int) → Decidable (i ≤ j)] (gd : GD) (ds : SD) : Nat → IT → Nat → Env1 → Store → RS
  | 0, _, _, _, _ => .no
  | n + 1, it, i, ρ, M => match nextI it i M with
    | none => .no
    | some none => .nx ρ M
    | some (some d) => (match gd d ρ M with
      | none => .no
      | some x => (match ds x.1 x.2 with
        | .nx ρ M => forL gd ds n it (i + 1) ρ M
        | .ct ρ M => forL gd ds n it (i + 1) ρ M
        | .bk ρ M => .nx ρ M
        | .rt d M => .rt d M
        | .ex C fs ρ M => .ex C fs ρ M
        | .no => .no))
def forS [DecidableEq Str] [DecidableEq Key] [DecidableEq String] [(α : Type) → GetElem? (List α) Nat α fun l i => i < l.length] [(α : Type) → Append (List α)] [(i j : Int) → Decidable (i < j)] [(i j : Int) → Decidable (i ≤ j)] (n : Nat) (di : ID) (gd : GD) (ds : SD) : SD := fun ρ M => (di ρ M).toS ρ fun it M1 => forL gd ds n it 0 ρ M1
theorem qs_for {n : Nat} (hp : PassesOwn (model X.prog X.w) X.A X.env X.xe) (hc : X.calm = true) (hi : PI X tg e (rI X W di)) (hg : PG X tg (rG X ks gd)) (hb : PSs X body (rS X W ds)) (hs : ∀ x, foldedSetIterable e X.env x = pure x) :
    PS X (.For tg e body [] pos) (rS X W (forS n di gd ds)) := (ps_for hp hc hi hg hb hs).imp fun E σ H ⟨ι, ρ, M, rm, re, q⟩ => ⟨ι, ρ, M, rm, re, (PostS.part q re).imp fun J H1 ⟨ι1, it, M1, m1, rm1, sim, q1⟩ => by
    refine ⟨fun i m σ' H' => ∃ ι' ρ' M', Mono ι1 H1 ι' H' ∧ RepM (pw X) ι' H' M' ∧ RepE (pw X) ι' H' σ' ρ' ∧ PostS (pw X) ι' H' E W (forL gd ds m it i ρ' M'), ⟨n, ι1, ρ, M1, .refl, rm1, re.mono m1, q1⟩, ?_⟩
    rintro i m σ2 H2 ⟨ι2, ρ2, M2, m2, rm2, re2, q2⟩
    cases m with
    | zero => exact q2.elim
    | succ m =>
      unfold forL at q2
      have sm := sim ι2 H2 M2 i m2 rm2
      cases en : nextI it i M2 with
      | none => rw [en] at q2; exact q2.elim
      | some o =>
        rw [en] at q2 sm
        cases o with
        | none => exact .inl ⟨sm, q2 _ _ _ .refl rm2 re2⟩
        | some d =>
          obtain ⟨hgo, hy⟩ := sm
          refine .inr ⟨hgo, fun σ' H' => ∃ ι' ρ' M', Mono ι1 H1 ι' H' ∧ RepM (pw X) ι' H' M' ∧ RepE (pw X) ι' H' σ' ρ' ∧ PostS (pw X) ι' H' E W (forL gd ds m it (i + 1) ρ' M'), fun σ' H' w => ⟨m, Nat.lt_succ_self _, w⟩, fun x H3 y => ?_⟩
          obtain ⟨rm3, m3, rx⟩ := hy x H3 y
          refine ⟨ι2, ρ2, M2, d, rm3, re2.mono m3, rx, ?_⟩
          dsimp only at q2
          cases eg : gd d ρ2 M2 with
          | none => rw [eg] at q2; exact q2.elim
          | some z =>
            rw [eg] at q2
            intro ι4 H4 σ4 m4 rm4 re4 _
            refine ⟨ι4, z.1, z.2, rm4, re4, ?_⟩
            have mm := (m2.trans m3).trans m4
            have q3 := PostS.mono q2 (m3.trans m4)
            dsimp only at q3
            cases es : ds z.1 z.2 with
            | nx ρ5 M5 =>
              rw [es] at q3
              exact fun ι5 H5 σ5 m5 rm5 re5 => ⟨ι5, ρ5, M5, mm.trans m5, rm5, re5, PostS.mono q3 m5⟩
            | ct ρ5 M5 =>
              rw [es] at q3
              exact fun ι5 H5 σ5 m5 rm5 re5 => ⟨ι5, ρ5, M5, mm.trans m5, rm5, re5, PostS.mono q3 m5⟩
            | bk ρ5 M5 => rw [es] at q3; exact q3
            | rt d5 M5 => rw [es] at q3; exact q3
            | ex C fs ρ5 M5 => rw [es] at q3; exact q3
            | no => rw [es] at q3; exact q3⟩
def whileL [DecidableEq Str] [DecidableEq Key] [DecidableEq String] [(α : Type) → GetElem? (List α) Nat α fun l i => i < l.length] [(α : Type) → Append (List α)] [(i j : Int) → Decidable (i < j)] [(i j : Int) → Decidable (i ≤ j)] (tc : TD) (ds : SD) : Nat → Env1 → Store → RS
  | 0, _, _ => .no
  | n + 1, ρ, M => (tc ρ M).toS ρ fun b M => if b = true then (match ds ρ M with
        | .nx ρ M => whileL tc ds n ρ M
        | .ct ρ M => whileL tc ds n ρ M
        | .bk ρ M => .nx ρ M
        | .rt d M => .rt d M
        | .ex C fs ρ M => .ex C fs ρ M
        | .no => .no) else .nx ρ M
theorem qs_while {n : Nat} (hp : PassesOwn (model X.prog X.w) X.A X.env X.xe) (hc : PT X c (rT X W tc)) (hb : PSs X body (rS X W ds)) : PS X (.While c body [] pos) (rS X W (whileL tc ds n)) := (ps_while hp hc hb).imp fun E σ H ⟨ι, ρ, M, rm, re, q⟩ => by
    refine ⟨fun m σ' H' => ∃ ι' ρ' M', RepM (pw X) ι' H' M' ∧ RepE (pw X) ι' H' σ' ρ' ∧ PostS (pw X) ι' H' E W (whileL tc ds m ρ' M'), ⟨n, ι, ρ, M, rm, re, q⟩, ?_⟩
    rintro m σ2 H2 ⟨ι2, ρ2, M2, rm2, re2, q2⟩
    cases m with
    | zero => exact q2.elim
    | succ m =>
      unfold whileL at q2
      refine ⟨ι2, ρ2, M2, rm2, re2, (PostS.part q2 re2).imp fun b H3 ⟨ι3, b', M3, m3, rm3, eb, q3⟩ => ?_⟩
      subst eb
      cases b with
      | false =>
        rw [if_neg Bool.false_ne_true] at q3 ⊢
        exact q3 _ _ _ .refl rm3 (re2.mono m3)
      | true =>
        rw [if_pos rfl] at q3 ⊢
        refine ⟨fun σ' H' => ∃ ι' ρ' M', RepM (pw X) ι' H' M' ∧ RepE (pw X) ι' H' σ' ρ' ∧ PostS (pw X) ι' H' E W (whileL tc ds m ρ' M'), fun σ' H' w => ⟨m, Nat.lt_succ_self _, w⟩, ι3, ρ2, M3, rm3, re2.mono m3, ?_⟩
        cases es : ds ρ2 M3 with
        | nx ρ5 M5 =>
          rw [es] at q3
          exact fun ι5 H5 σ5 m5 rm5 re5 => ⟨ι5, ρ5, M5, rm5, re5, PostS.mono q3 m5⟩
        | ct ρ5 M5 =>
          rw [es] at q3
          exact fun ι5 H5 σ5 m5 rm5 re5 => ⟨ι5, ρ5, M5, rm5, re5, PostS.mono q3 m5⟩
        | bk ρ5 M5 => rw [es] at q3; exact q3
        | rt d5 M5 => rw [es] at q3; exact q3
        | ex C fs ρ5 M5 => rw [es] at q3; exact q3
        | no => rw [es] at q3; exact q3
end
end Ev
set_option Elab.async false
set_option linter.all false
set_option maxRecDepth 100000
set_option maxHeartbeats 4000000
/-! Comprehensions. -/
namespace Ev
open PySem PySem.Spec PyProof.Rows L2

def wipeE [DecidableEq Str] [DecidableEq Key] [DecidableEq String] [(α : Type) → GetElem? (List α) Nat α fun l i => i < l.length] [(α : Type) → Append (List α)] [(i j : Int) → Decidable (i < j)] [(i j : Int) → Decidable (i ≤ j)] (ρ : Env1) : List Nat → Env1
  | [] => ρ
  | v :: vs => (wipeE ρ vs).set v none
theorem RepE.set0 {p : Pw} {ι : List Addr} {H : Hp} {σ : L2.St} {ρ : Env1} {i : Nat} (h : RepE p ι H σ ρ) : RepE p ι H (σ.set i none) (ρ.set i none) := by
  refine ⟨by simp [h.1], fun j e hj => ?_⟩
  by_cases hij : i = j
  · subst hij
    have hl : i < ρ.length := by
      have := (List.getElem?_eq_some_iff.mp hj).1
      simpa using this
    rw [List.getElem?_set_self hl] at hj
    cases hj
  · rw [List.getElem?_set_ne hij] at hj
    rw [List.getElem?_set_ne hij]
    exact h.2 j e hj
theorem RepE.wipe {p : Pw} {ι : List Addr} {H : Hp} {σ : L2.St} {ρ : Env1} (h : RepE p ι H σ ρ) : ∀ vs : List Nat, RepE p ι H (L2.wipe σ vs) (wipeE ρ vs)
  | [] => h
  | v :: vs => (RepE.wipe h vs).set0
theorem wipe_at (σ : L2.St) (i : Nat) : ∀ vs : List Nat, (wipe σ vs)[i]? = if i ∈ vs then (σ[i]?).map fun _ => none else σ[i]?
  | [] => by simp [wipe]
  | v :: vs => by
    have ih := wipe_at σ i vs
    unfold wipe
    by_cases e : v = i
    · subst e
      rw [if_pos (List.mem_cons_self ..)]
      by_cases hl : v < (wipe σ vs).length
      · rw [List.getElem?_set_self hl]
        have hl' : v < σ.length := by rw [wipe_length] at hl; exact hl
        rw [List.getElem?_eq_getElem hl']
        rfl
      · rw [List.getElem?_eq_none (by simpa using hl)]
        have hl' : ¬ v < σ.length := by rw [wipe_length] at hl; exact hl
        rw [List.getElem?_eq_none (by omega)]
        rfl
    · rw [List.getElem?_set_ne e, ih]
      by_cases hm : i ∈ vs
      · rw [if_pos hm, if_pos (List.mem_cons_of_mem _ hm)]
      · rw [if_neg hm, if_neg (by simp only [List.mem_cons, not_or]; exact ⟨fun z => e z.symm, hm⟩)]
theorem wipe_same {σ σ2 : L2.St} {ks vs : List Nat} (h : Same ks (wipe σ vs) σ2) (hk : ∀ i ∈ ks, i ∈ vs) : wipe σ2 vs = wipe σ vs := by
  apply List.ext_getElem?
  intro i
  rw [wipe_at, wipe_at]
  by_cases hi : i ∈ vs
  · rw [if_pos hi, if_pos hi]
    have hl : σ2.length = σ.length := by rw [h.1, wipe_length]
    by_cases hlt : i < σ.length
    · rw [List.getElem?_eq_getElem hlt, List.getElem?_eq_getElem (by omega)]
      rfl
    · rw [List.getElem?_eq_none (by omega), List.getElem?_eq_none (by omega)]
  · rw [if_neg hi, if_neg hi, h.2 i (fun z => hi (hk i z)), wipe_at, if_neg hi]

def noEx [DecidableEq Str] [DecidableEq Key] [DecidableEq String] [(α : Type) → GetElem? (List α) Nat α fun l i => i < l.length] [(α : Type) → Append (List α)] [(i j : Int) → Decidable (i < j)] [(i j : Int) → Decidable (i ≤ j)] {α : Type} (r : R α) : R α := match r with
  | .ok a M => .ok a M
  | _ => .no
abbrev Wf : WX := fun _ _ _ _ => False
theorem Post.noEx {α β : Type} {p : Pw} {ι : List Addr} {H : Hp} {rel : List Addr → Hp → β → α → Prop} {Q : β → Hp → Prop} {W W' : XK} {r : R α} (h : Post p ι H rel Q W (noEx r)) : Post p ι H rel Q W' r := by
  cases r with
  | ok a M => exact h
  | ex C fs M => exact h.elim
  | no => exact h

def lcL [DecidableEq Str] [DecidableEq Key] [DecidableEq String] [(α : Type) → GetElem? (List α) Nat α fun l i => i < l.length] [(α : Type) → Append (List α)] [(i j : Int) → Decidable (i < j)] [(i j : Int) → Decidable (i ≤ j)] (gd : GD) (tt : TD) (de : ED) (ρ0 : Env1) (r : Nat) : Nat → IT → Nat → Store → R D
  | 0, _, _, _ => .no
  | n + 1, it, i, M => match nextI it i M with
    | none => .no
    | some none => .ok (.ref r) M
    | some (some d) => (match gd d ρ0 M with
      | none => .no
      | some x => (noEx (tt x.1 x.2)).bind fun b M3 => if b = true then (noEx (de x.1 M3)).bind fun y M4 => (match lstAt M4 r with
        | some acc => if acc.length < sizeLine then lcL gd tt de ρ0 r n it (i + 1) (M4.set r (.lst (acc ++ [y]))) else .no
        | none => .no) else lcL gd tt de ρ0 r n it (i + 1) M3)
def lcD [DecidableEq Str] [DecidableEq Key] [DecidableEq String] [(α : Type) → GetElem? (List α) Nat α fun l i => i < l.length] [(α : Type) → Append (List α)] [(i j : Int) → Decidable (i < j)] [(i j : Int) → Decidable (i ≤ j)] (n : Nat) (di : ID) (gd : GD) (tt : TD) (de : ED) (vs : List Nat) : ED := fun ρ M => (di ρ M).bind fun it M1 => lcL gd tt de (wipeE ρ vs) M1.length n it 0 (M1 ++ [.lst []])
section
variable {X : Cx} {W : WX} {g : Pg} {a b c e elt iter tg : Expr} {es ifs : List Expr} {da db dc dd de : ED} {dr : AD} {pos apos pos' p : Pos} {pins : List (Addr × Obj)} {σ : L2.St} {H : Hp} {s : Shared} {ι : List Addr} {ρ : Env1} {M : Store} {st : Stmt} {tt : TD} {di : ID} {gd : GD} {ks vs : List Nat} {scope : Scope} {own : List (Str × Nat)}
theorem lc_imp {n : Nat} (hk : ∀ i ∈ ks, i ∈ vs) {Q : VK} (h : rE X W (lcD n di gd tt de vs) σ H Q) : tLc (rI X W di) (rG X ks gd) (rT X Wf tt) (rE X Wf de) vs σ H Q := by
  obtain ⟨ι, ρ, M, rm, re, q⟩ := h
  refine ⟨ι, ρ, M, rm, re, (Post.bind q).imp fun J H1 ⟨ι1, it, M1, m1, rm1, sim, q1⟩ => fun A hA => ?_⟩
  have m0 : Mono ι1 H1 (ι1 ++ [A]) (upd H1 A (.lst [])) := .new hA
  obtain ⟨rm0, _, hr⟩ := rm1.alloc (u := .lst []) (o := .lst []) hA ⟨[], upd_same, .nil⟩
  refine ⟨fun i m H' => ∃ ι' M', Mono (ι1 ++ [A]) (upd H1 A (.lst [])) ι' H' ∧ RepM (pw X) ι' H' M' ∧ Post (pw X) ι' H' (Rep (pw X)) Q (WE W σ) (lcL gd tt de (wipeE ρ vs) M1.length m it i M'), ⟨n, _, _, .refl, rm0, Post.mono q1 m0⟩, ?_⟩
  rintro i m H2 ⟨ι2, M2, m2, rm2, q2⟩
  cases m with
  | zero => exact q2.elim
  | succ m =>
    unfold lcL at q2
    have sm := sim ι2 H2 M2 i (m0.trans m2) rm2
    cases en : nextI it i M2 with
    | none => rw [en] at q2; exact q2.elim
    | some o =>
      rw [en] at q2 sm
      cases o with
      | none => exact .inl ⟨sm, q2 _ _ _ .refl rm2 (.ref (m2.at_ hr))⟩
      | some d =>
        obtain ⟨hgo, hy⟩ := sm
        refine .inr ⟨hgo, fun H' => ∃ ι' M', Mono (ι1 ++ [A]) (upd H1 A (.lst [])) ι' H' ∧ RepM (pw X) ι' H' M' ∧ Post (pw X) ι' H' (Rep (pw X)) Q (WE W σ) (lcL gd tt de (wipeE ρ vs) M1.length m it (i + 1) M'), fun H' w => ⟨m, Nat.lt_succ_self _, w⟩, fun x H3 y => ?_⟩
        obtain ⟨rm3, m3, rx⟩ := hy x H3 y
        have re3 : RepE (pw X) ι2 H3 (wipe σ vs) (wipeE ρ vs) := (re.mono (((m1.trans m0).trans m2).trans m3)).wipe vs
        refine ⟨ι2, _, M2, d, rm3, re3, rx, ?_⟩
        dsimp only at q2
        cases eg : gd d (wipeE ρ vs) M2 with
        | none => rw [eg] at q2; exact q2.elim
        | some z =>
          rw [eg] at q2
          intro ι4 H4 σ4 m4 rm4 re4 sm4
          refine ⟨wipe_same sm4 hk, ι4, z.1, z.2, rm4, re4, ?_⟩
          have q3 := Post.mono q2 (m3.trans m4)
          refine (Post.noEx (Post.bind q3)).imp fun b H5 ⟨ι5, b', M5, m5, rm5, eb, q5⟩ => ?_
          subst eb
          have mm := ((m2.trans m3).trans m4).trans m5
          cases b with
          | false =>
            rw [if_neg Bool.false_ne_true] at q5 ⊢
            exact ⟨ι5, M5, mm, rm5, q5⟩
          | true =>
            rw [if_pos rfl] at q5 ⊢
            refine ⟨ι5, z.1, M5, rm5, re4.mono m5, (Post.noEx (Post.bind q5)).imp fun y H6 ⟨ι6, y', M6, m6, rm6, ry, q6⟩ => ?_⟩
            cases el : lstAt M6 M1.length with
            | none => rw [el] at q6; exact q6.elim
            | some acc =>
              rw [el] at q6
              dsimp only at q6
              have hA6 := (mm.trans m6).at_ hr
              obtain ⟨a', vs', e1, _, ha, l⟩ := lstAt_at rm6 (.ref hA6) el
              cases e1
              split at q6
              · rename_i hl
                obtain ⟨rm7, m7⟩ := set_rep (u := .lst (vs' ++ [y])) (o := .lst (acc ++ [y'])) rm6 hA6 ha (fun _ z => nomatch z) fun m => ⟨_, upd_same, (l.append (.cons ry .nil)).mono m⟩
                exact ⟨vs', ha, by rw [l.length]; exact hl, ι6, _, (mm.trans m6).trans m7, rm7, Post.mono q6 m7⟩
              · exact q6.elim
/-- the context's own hypotheses of a block -/
theorem q_lc {n : Nat} (hc : X.calm = true) (hN : X.N.Nodup) (hi : PI X tg iter (rI X W di)) (ok : BlkOk X.N X.env.scope scope own) (hk : ∀ i ∈ ks, i ∈ own.map (·.2))
    (hg : ∀ (s : Shared) (H : Hp) (C : Addr) (cl : List (Str × Addr)) (fp : List Addr), PG (X.blk s H scope (compEnvC scope cl C X.env) fp) tg (rG X ks gd)) (ht : ∀ (s : Shared) (H : Hp) (C : Addr) (cl : List (Str × Addr)) (fp : List Addr), PTs (X.blk s H scope (compEnvC scope cl C X.env) fp) ifs (rT X Wf tt))
    (he : ∀ (s : Shared) (H : Hp) (C : Addr) (cl : List (Str × Addr)) (fp : List Addr), PE (X.blk s H scope (compEnvC scope cl C X.env) fp) elt (rE X Wf de)) (hs : ∀ x, foldedSetIterable iter X.env x = pure x) :
    PE X (.ListComp elt [⟨tg, iter, ifs, 0⟩] scope pos) (rE X W (lcD n di gd tt de (own.map (·.2)))) := (pe_lc hc hN hi ok hg ht he hs).imp fun σ H Q h => lc_imp hk h
theorem qs_setLc {n i : Nat} {y : Str} {py spos : Pos} (hc : X.calm = true) (hN : X.N.Nodup) (hy : X.N[i]? = some y) (hyl : X.env.scope.names.lookup y = some .local)
    (hsw : swapsWith (.ListComp elt [⟨tg, iter, ifs, 0⟩] scope pos) (some (.Name y py)) spos.line X.env = pure true) (hi : PI X tg iter (rI X W di)) (ok : BlkOk X.N X.env.scope scope own) (hk : ∀ i ∈ ks, i ∈ own.map (·.2))
    (hg : ∀ (s : Shared) (H : Hp) (C : Addr) (cl : List (Str × Addr)) (fp : List Addr), PG (X.blk s H scope (compEnvC scope cl C X.env) fp) tg (rG X ks gd)) (ht : ∀ (s : Shared) (H : Hp) (C : Addr) (cl : List (Str × Addr)) (fp : List Addr), PTs (X.blk s H scope (compEnvC scope cl C X.env) fp) ifs (rT X Wf tt))
    (he : ∀ (s : Shared) (H : Hp) (C : Addr) (cl : List (Str × Addr)) (fp : List Addr), PE (X.blk s H scope (compEnvC scope cl C X.env) fp) elt (rE X Wf de)) (hs : ∀ x, foldedSetIterable iter X.env x = pure x) :
    PS X (.Assign [.Name y py] (.ListComp elt [⟨tg, iter, ifs, 0⟩] scope pos) spos) (rS X W (asgS (lcD n di gd tt de (own.map (·.2))) (gName1 i))) := (ps_setLc hc hN hy hyl hsw hi ok hg ht he hs).imp fun E σ H ⟨ι, ρ, M, rm, re, q⟩ =>
  lc_imp (Q := fun x H1 => gName i x σ H1 E.nx) hk ⟨ι, ρ, M, rm, re, (PostS.part q re).imp fun v H1 ⟨ι1, d, M1, m1, rm1, rv, q1⟩ => q1 ι1 H1 _ .refl rm1 ((re.mono m1).set rv)⟩
/-- the tests of a clause -/
theorem qts_nil : PTs X [] (rT X W fun _ M => .ok true M) := ⟨fun pins s σ H Q I ⟨ι, ρ, M, rm, re, q⟩ => pts_nil.run pins s σ H Q I (q ι H true .refl rm rfl)⟩
theorem qts_one (h : PT X c (rT X W tt)) : PTs X [c] (rT X W tt) := pts_one h

/-! ### {k: v for ..} -/
def dkPutM [DecidableEq Str] [DecidableEq Key] [DecidableEq String] [(α : Type) → GetElem? (List α) Nat α fun l i => i < l.length] [(α : Type) → Append (List α)] [(i j : Int) → Decidable (i < j)] [(i j : Int) → Decidable (i ≤ j)] (M : Store) (r : Nat) (k v : D) : Option Store := match M[r]?, keyOf k with
  | some (.dK kvs), some k => if kvs.length < sizeLine then some (M.set r (.dK (putD kvs k v))) else none
  | _, _ => none
theorem dkPutM_ok {p : Pw} {r : Nat} {A : Addr} {y v : V} {k d : D} {M' : Store} (rm : RepM p ι H M) (hA : ι[r]? = some A) (hy : Rep p ι H y k) (hv : Rep p ι H v d) (e : dkPutM M r k d = some M') :
    ∃ kvs k', y = kV k' ∧ H A = some (.dK kvs) ∧ kvs.length < sizeLine ∧ RepM p ι (upd H A (.dK (putK kvs k' v))) M' ∧ Mono ι H ι (upd H A (.dK (putK kvs k' v))) := by
  unfold dkPutM at e
  split at e
  · rename_i kvs k' q ek
    obtain ⟨vs, ha, l⟩ := rm.at_ r A _ hA q
    split at e
    · rename_i hl
      cases e
      obtain ⟨rm2, m2⟩ := set_rep (u := .dK (putK vs k' v)) (o := .dK (putD kvs k' d)) rm hA ha (fun _ z => nomatch z) fun m => ⟨_, upd_same, (l.put hv).mono m⟩
      exact ⟨vs, k', keyOf_rep hy ek, ha, by rw [l.length]; exact hl, rm2, m2⟩
    · cases e
  · cases e
def dcL [DecidableEq Str] [DecidableEq Key] [DecidableEq String] [(α : Type) → GetElem? (List α) Nat α fun l i => i < l.length] [(α : Type) → Append (List α)] [(i j : Int) → Decidable (i < j)] [(i j : Int) → Decidable (i ≤ j)] (gd : GD) (tt : TD) (dk dv : ED) (ρ0 : Env1) (r : Nat) : Nat → IT → Nat → Store → R D
  | 0, _, _, _ => .no
  | n + 1, it, i, M => match nextI it i M with
    | none => .no
    | some none => .ok (.ref r) M
    | some (some d) => (match gd d ρ0 M with
      | none => .no
      | some x => (noEx (tt x.1 x.2)).bind fun b M3 => if b = true then (noEx (dk x.1 M3)).bind fun k M4 => (noEx (dv x.1 M4)).bind fun y M5 => (match dkPutM M5 r k y with
        | some M6 => dcL gd tt dk dv ρ0 r n it (i + 1) M6
        | none => .no) else dcL gd tt dk dv ρ0 r n it (i + 1) M3)
def dcD [DecidableEq Str] [DecidableEq Key] [DecidableEq String] [(α : Type) → GetElem? (List α) Nat α fun l i => i < l.length] [(α : Type) → Append (List α)] [(i j : Int) → Decidable (i < j)] [(i j : Int) → Decidable (i ≤ j)] (n : Nat) (di : ID) (gd : GD) (tt : TD) (dk dv : ED) (vs : List Nat) : ED := fun ρ M => (di ρ M).bind fun it M1 => dcL gd tt dk dv (wipeE ρ vs) M1.length n it 0 (M1 ++ [.dK []])
theorem dc_imp {n : Nat} {dk dv : ED} (hk : ∀ i ∈ ks, i ∈ vs) {Q : VK} (h : rE X W (dcD n di gd tt dk dv vs) σ H Q) : tDc (rI X W di) (rG X ks gd) (rT X Wf tt) (rE X Wf dk) (rE X Wf dv) vs σ H Q := by
  obtain ⟨ι, ρ, M, rm, re, q⟩ := h
  refine ⟨ι, ρ, M, rm, re, (Post.bind q).imp fun J H1 ⟨ι1, it, M1, m1, rm1, sim, q1⟩ => fun A hA => ?_⟩
  have m0 : Mono ι1 H1 (ι1 ++ [A]) (upd H1 A (.dK [])) := .new hA
  obtain ⟨rm0, _, hr⟩ := rm1.alloc (u := .dK []) (o := .dK []) hA ⟨[], upd_same, .nil⟩
  refine ⟨fun i m H' => ∃ ι' M', Mono (ι1 ++ [A]) (upd H1 A (.dK [])) ι' H' ∧ RepM (pw X) ι' H' M' ∧ Post (pw X) ι' H' (Rep (pw X)) Q (WE W σ) (dcL gd tt dk dv (wipeE ρ vs) M1.length m it i M'), ⟨n, _, _, .refl, rm0, Post.mono q1 m0⟩, ?_⟩
  rintro i m H2 ⟨ι2, M2, m2, rm2, q2⟩
  cases m with
  | zero => exact q2.elim
  | succ m =>
    unfold dcL at q2
    have sm := sim ι2 H2 M2 i (m0.trans m2) rm2
    cases en : nextI it i M2 with
    | none => rw [en] at q2; exact q2.elim
    | some o =>
      rw [en] at q2 sm
      cases o with
      | none => exact .inl ⟨sm, q2 _ _ _ .refl rm2 (.ref (m2.at_ hr))⟩
      | some d =>
        obtain ⟨hgo, hy⟩ := sm
        refine .inr ⟨hgo, fun H' => ∃ ι' M', Mono (ι1 ++ [A]) (upd H1 A (.dK [])) ι' H' ∧ RepM (pw X) ι' H' M' ∧ Post (pw X) ι' H' (Rep (pw X)) Q (WE W σ) (dcL gd tt dk dv (wipeE ρ vs) M1.length m it (i + 1) M'), fun H' w => ⟨m, Nat.lt_succ_self _, w⟩, fun x H3 y => ?_⟩
        obtain ⟨rm3, m3, rx⟩ := hy x H3 y
        have re3 : RepE (pw X) ι2 H3 (wipe σ vs) (wipeE ρ vs) := (re.mono (((m1.trans m0).trans m2).trans m3)).wipe vs
        refine ⟨ι2, _, M2, d, rm3, re3, rx, ?_⟩
        dsimp only at q2
        cases eg : gd d (wipeE ρ vs) M2 with
        | none => rw [eg] at q2; exact q2.elim
        | some z =>
          rw [eg] at q2
          intro ι4 H4 σ4 m4 rm4 re4 sm4
          refine ⟨wipe_same sm4 hk, ι4, z.1, z.2, rm4, re4, ?_⟩
          have q3 := Post.mono q2 (m3.trans m4)
          refine (Post.noEx (Post.bind q3)).imp fun b H5 ⟨ι5, b', M5, m5, rm5, eb, q5⟩ => ?_
          subst eb
          have mm := ((m2.trans m3).trans m4).trans m5
          cases b with
          | false =>
            rw [if_neg Bool.false_ne_true] at q5 ⊢
            exact ⟨ι5, M5, mm, rm5, q5⟩
          | true =>
            rw [if_pos rfl] at q5 ⊢
            refine ⟨ι5, z.1, M5, rm5, re4.mono m5, (Post.noEx (Post.bind q5)).imp fun k H6 ⟨ι6, k', M6, m6, rm6, rk, q6⟩ => ?_⟩
            refine ⟨ι6, z.1, M6, rm6, (re4.mono m5).mono m6, (Post.noEx (Post.bind q6)).imp fun y H7 ⟨ι7, y', M7, m7, rm7, ry, q7⟩ => ?_⟩
            cases el : dkPutM M7 M1.length k' y' with
            | none => rw [el] at q7; exact q7.elim
            | some M8 =>
              rw [el] at q7
              have hA7 := ((mm.trans m6).trans m7).at_ hr
              obtain ⟨kvs, k2, e1, ha, hl, rm8, m8⟩ := dkPutM_ok rm7 hA7 (rk.mono m7) ry el
              exact ⟨kvs, k2, e1, ha, hl, ι7, M8, ((mm.trans m6).trans m7).trans m8, rm8, Post.mono q7 m8⟩
theorem q_dc {n : Nat} {dk dv : ED} {kx vx : Expr} (hc : X.calm = true) (hN : X.N.Nodup) (hi : PI X tg iter (rI X W di)) (ok : BlkOk X.N X.env.scope scope own) (hks : ∀ i ∈ ks, i ∈ own.map (·.2))
    (hg : ∀ (s : Shared) (H : Hp) (C : Addr) (cl : List (Str × Addr)) (fp : List Addr), PG (X.blk s H scope (compEnvC scope cl C X.env) fp) tg (rG X ks gd)) (ht : ∀ (s : Shared) (H : Hp) (C : Addr) (cl : List (Str × Addr)) (fp : List Addr), PTs (X.blk s H scope (compEnvC scope cl C X.env) fp) ifs (rT X Wf tt))
    (hk : ∀ (s : Shared) (H : Hp) (C : Addr) (cl : List (Str × Addr)) (fp : List Addr), PE (X.blk s H scope (compEnvC scope cl C X.env) fp) kx (rE X Wf dk))
    (he : ∀ (s : Shared) (H : Hp) (C : Addr) (cl : List (Str × Addr)) (fp : List Addr), PE (X.blk s H scope (compEnvC scope cl C X.env) fp) vx (rE X Wf dv)) (hs : ∀ x, foldedSetIterable iter X.env x = pure x) :
    PE X (.DictComp kx vx [⟨tg, iter, ifs, 0⟩] scope pos) (rE X W (dcD n di gd tt dk dv (own.map (·.2)))) := (pe_dc hc hN hi ok hg ht hk he hs).imp fun σ H Q h => dc_imp hks h
end
end Ev
set_option Elab.async false
set_option linter.all false
set_option maxRecDepth 100000
set_option maxHeartbeats 4000000
/-! How a call binds its parameters: once for every def without stars. -/
namespace Ev
open PySem PySem.Spec PyProof.Rows L2

section
variable {α : Type}
theorem lookup_app (x : Str) : ∀ (l r : List (Str × α)), (l ++ r).lookup x = (l.lookup x).or (r.lookup x)
  | [], r => rfl
  | (k, v) :: l, r => by
    have ih := lookup_app x l r
    simp only [List.cons_append, List.lookup_cons]
    cases (x == k) with
    | true => rfl
    | false => exact ih
theorem lookup_none {x : Str} : ∀ {l : List (Str × α)}, l.lookup x = none ↔ x ∉ l.map (·.1)
  | [] => by simp
  | (k, v) :: l => by
    have ih := lookup_none (x := x) (l := l)
    simp only [List.lookup_cons, List.map_cons, List.mem_cons, not_or]
    cases h : (x == k) with
    | true =>
      have e : x = k := by simpa using h
      simp [e]
    | false =>
      have e : ¬ x = k := by simpa using h
      simp only [e, not_false_eq_true, true_and]
      exact ih
theorem lookup_some {x : Str} {l : List (Str × α)} (h : x ∈ l.map (·.1)) : ∃ v, l.lookup x = some v := by
  cases e : l.lookup x with
  | none => exact absurd h (lookup_none.mp e)
  | some v => exact ⟨v, rfl⟩
/-- P, Q the parameters, Q by keyword only; us, kw what is written; its the defaults of P's end, kd Q's -/
def bindL4 [DecidableEq Str] [DecidableEq Key] [DecidableEq String] [(α : Type) → GetElem? (List α) Nat α fun l i => i < l.length] [(α : Type) → Append (List α)] [(i j : Int) → Decidable (i < j)] [(i j : Int) → Decidable (i ≤ j)] (P Q : List Str) (us : List α) (kw : List (Str × α)) (its : List α) (kd : List (Str × α)) : List (Str × α) :=
  P.zip us ++ kw ++ (P.drop (P.length - its.length)).zip its ++ Q.filterMap fun n => (kd.lookup n).map (n, ·)
/-- whether a call is one that binds -/
def bindOk [DecidableEq Str] [DecidableEq Key] [DecidableEq String] [(α : Type) → GetElem? (List α) Nat α fun l i => i < l.length] [(α : Type) → Append (List α)] [(i j : Int) → Decidable (i < j)] [(i j : Int) → Decidable (i ≤ j)] (P Q : List Str) (n : Nat) (ks : List Str) (nd : Nat) (kd : List Str) : Bool :=
  decide ((P ++ Q).Nodup) && decide ks.Nodup && decide (n ≤ P.length) && decide (nd ≤ P.length) && ks.all (fun k => !(P.take n).contains k && (P.contains k || Q.contains k)) && (P.take (P.length - nd)).all (fun x => (P.take n).contains x || ks.contains x) &&
    Q.all (fun x => ks.contains x || kd.contains x)
def bindG [DecidableEq Str] [DecidableEq Key] [DecidableEq String] [(α : Type) → GetElem? (List α) Nat α fun l i => i < l.length] [(α : Type) → Append (List α)] [(i j : Int) → Decidable (i < j)] [(i j : Int) → Decidable (i ≤ j)] (P Q : List Str) (us : List α) (kw : List (Str × α)) (its : List α) (kd : List (Str × α)) : Option (List α) :=
  if bindOk P Q us.length (kw.map (·.1)) its.length (kd.map (·.1)) = true then mapO (fun x => (bindL4 P Q us kw its kd).lookup x) (P ++ Q) else none
theorem loop1 {β : Type} {c : Str → Bool} {f : Str × Value → List (Str × Value) × β → Sem (ForInStep (List (Str × Value) × β))}
    (hf : ∀ kv sl ex, c kv.1 = true → sl.lookup kv.1 = none → f kv (sl, ex) = pure (.yield (sl ++ [kv], ex))) : ∀ (kw sl : List (Str × Value)) (ex : β), (∀ kv ∈ kw, c kv.1 = true) → (∀ kv ∈ kw, sl.lookup kv.1 = none) → (kw.map (·.1)).Nodup →
    forIn kw (sl, ex) f = pure (sl ++ kw, ex)
  | [], sl, ex, _, _, _ => by rw [List.forIn_nil, List.append_nil]
  | kv :: kw, sl, ex, h1, h2, h3 => by
    rw [List.forIn_cons, hf kv sl ex (h1 kv (List.mem_cons_self ..)) (h2 kv (List.mem_cons_self ..))]
    rw [List.map_cons, List.nodup_cons] at h3
    have ih := loop1 hf kw (sl ++ [kv]) ex (fun p hp => h1 p (List.mem_cons_of_mem _ hp)) (fun p hp => ?_) h3.2
    · rw [List.append_assoc, List.singleton_append] at ih
      exact ih
    · rw [lookup_app, h2 p (List.mem_cons_of_mem _ hp), Option.none_or]
      have ne : ¬ p.1 = kv.1 := fun e => h3.1 (e ▸ List.mem_map_of_mem hp)
      have : (p.1 == kv.1) = false := by simpa using ne
      rw [List.lookup_cons, this]; rfl
theorem loop2 {f : Str × Value → List (Str × Value) → Sem (ForInStep (List (Str × Value)))}
    (hf : ∀ kv sl, f kv sl = if (sl.lookup kv.1).isNone = true then pure (.yield (sl ++ [kv])) else pure (.yield sl)) : ∀ (l sl : List (Str × Value)), ∃ L, forIn l sl f = pure L ∧ ∀ x, L.lookup x = (sl ++ l).lookup x
  | [], sl => ⟨sl, by rw [List.forIn_nil], fun x => by rw [List.append_nil]⟩
  | kv :: l, sl => by
    rw [List.forIn_cons, hf]
    by_cases h : (sl.lookup kv.1).isNone = true
    · rw [if_pos h]
      obtain ⟨L, e, hl⟩ := loop2 hf l (sl ++ [kv])
      exact ⟨L, e, fun x => by rw [hl x, List.append_assoc, List.singleton_append]⟩
    · rw [if_neg h]
      obtain ⟨L, e, hl⟩ := loop2 hf l sl
      refine ⟨L, e, fun x => ?_⟩
      rw [hl x, lookup_app, lookup_app]
      cases hx : sl.lookup x with
      | some v => rfl
      | none =>
        rw [Option.none_or, Option.none_or]
        obtain ⟨k, v⟩ := kv
        have ne : (x == k) = false := by
          cases q : (x == k) with
          | false => rfl
          | true =>
            have e : x = k := by simpa using q
            subst e
            rw [hx] at h
            exact absurd rfl h
        rw [List.lookup_cons, ne]
theorem loop3 {M : Model} {h : Heap} {kd : List (Str × Value)} {f : Str → List (Str × Value) × List Str → Sem (ForInStep (List (Str × Value) × List Str))}
    (h1 : ∀ n sl ms v, sl.lookup n = some v → f n (sl, ms) = pure (.yield (sl, ms)))
    (h2 : ∀ n sl ms v, sl.lookup n = none → kd.lookup n = some v → PySem.W.Looks M h (f n (sl, ms)) (.yield (sl ++ [(n, v)], ms))) : ∀ (Q : List Str) (sl : List (Str × Value)) (ms : List Str), (∀ n ∈ Q, (sl.lookup n).isSome = true ∨ (kd.lookup n).isSome = true) → 
      ∃ L, PySem.W.Looks M h (forIn Q (sl, ms) f) (L, ms) ∧ ∀ x, L.lookup x = (sl ++ Q.filterMap fun n => (kd.lookup n).map (n, ·)).lookup x
  | [], sl, ms, _ => ⟨sl, by rw [List.forIn_nil]; exact .now, fun x => by rw [List.filterMap_nil, List.append_nil]⟩
  | n :: Q, sl, ms, hq => by
    rw [List.forIn_cons]
    cases e : sl.lookup n with
    | some v =>
      obtain ⟨L, hl, hx⟩ := loop3 h1 h2 Q sl ms fun m hm => hq m (List.mem_cons_of_mem _ hm)
      refine ⟨L, ?_, fun x => ?_⟩
      · rw [h1 n sl ms v e]
        exact hl
      · rw [hx x, lookup_app, lookup_app]
        cases ex : sl.lookup x with
        | some w => rfl
        | none =>
          rw [Option.none_or, Option.none_or]
          have ne : (x == n) = false := by
            cases q : (x == n) with
            | false => rfl
            | true =>
              have e2 : x = n := by simpa using q
              rw [e2, e] at ex
              cases ex
          rw [List.filterMap_cons]
          cases ek : kd.lookup n with
          | none => rfl
          | some w =>
            show _ = List.lookup x ((n, w) :: _)
            rw [List.lookup_cons, ne]
    | none =>
      have hs := hq n (List.mem_cons_self ..)
      rw [e] at hs
      rcases hs with hs | hs
      · cases hs
      · obtain ⟨v, ek⟩ := Option.isSome_iff_exists.mp hs
        obtain ⟨L, hl, hx⟩ := loop3 h1 h2 Q (sl ++ [(n, v)]) ms fun m hm => (hq m (List.mem_cons_of_mem _ hm)).elim (fun z => .inl (by
          rw [lookup_app]
          obtain ⟨w, ew⟩ := Option.isSome_iff_exists.mp z
          rw [ew]
          rfl)) .inr
        refine ⟨L, (h2 n sl ms v e ek).andThen hl, fun x => ?_⟩
        rw [hx x, List.filterMap_cons, ek]
        simp only [Option.map_some, List.append_assoc, List.singleton_append]
end
theorem loop2_then {γ : Type} {M : Model} {h : Heap} {l sl : List (Str × Value)} {k : List (Str × Value) → Sem γ} {r : γ} {f : Str × Value → List (Str × Value) → Sem (ForInStep (List (Str × Value)))}
    (hf : ∀ kv sl, f kv sl = if (sl.lookup kv.1).isNone = true then pure (.yield (sl ++ [kv])) else pure (.yield sl)) (hk : ∀ L : List (Str × Value), (∀ x, L.lookup x = (sl ++ l).lookup x) → PySem.W.Looks M h (k L) r) : PySem.W.Looks M h (forIn l sl f >>= k) r := by
  obtain ⟨L, e, hl⟩ := loop2 hf l sl
  rw [e]
  exact PySem.W.Looks.andThen .now (hk L hl)
theorem loop3_then {γ : Type} {M : Model} {h : Heap} {kd sl : List (Str × Value)} {Q ms : List Str} {k : List (Str × Value) × List Str → Sem γ} {r : γ} {f : Str → List (Str × Value) × List Str → Sem (ForInStep (List (Str × Value) × List Str))}
    (hq : ∀ n ∈ Q, (sl.lookup n).isSome = true ∨ (kd.lookup n).isSome = true) (h1 : ∀ n sl ms v, sl.lookup n = some v → f n (sl, ms) = pure (.yield (sl, ms)))
    (h2 : ∀ n sl ms v, sl.lookup n = none → kd.lookup n = some v → PySem.W.Looks M h (f n (sl, ms)) (.yield (sl ++ [(n, v)], ms)))
    (hk : ∀ L : List (Str × Value), (∀ x, L.lookup x = (sl ++ Q.filterMap fun n => (kd.lookup n).map (n, ·)).lookup x) → PySem.W.Looks M h (k (L, ms)) r) : PySem.W.Looks M h (forIn Q (sl, ms) f >>= k) r := by
  obtain ⟨L, e, hl⟩ := loop3 h1 h2 Q sl ms hq
  exact e.andThen (hk L hl)
theorem bind_looks {x qual : Str} {params : Arguments} {body : List Stmt} {scope : Scope} {doc pm : Value} {an : Option Addr} {cdv ct dV kV : Value} {us its vals : List Value} {kw kd : List (Str × Value)} {M : Model} {h : Heap} {P Q : List Str}
    (h0 : params.posonlyargs = []) (h1 : params.vararg = none) (h2 : params.kwarg = none) (hP : params.args.map (·.arg) = P) (hQ : params.kwonlyargs.map (·.arg) = Q)
    (hD : PySem.W.Looks M h (seqItems? dV) (if its = [] then none else some its.toArray)) (hK : kd = [] ∨ ∃ D, kV = .ref D ∧ ∀ n v, kd.lookup n = some v → PySem.W.Looks M h (nsGet D n) (some v))
    (hv : bindG P Q us kw its kd = some vals) : PySem.W.Looks M h (bindArgs (PySem.W.fnOf x qual params body scope dV kV doc pm an cdv ct) ⟨us, kw⟩) ((P ++ Q).zip vals) := by
  unfold bindG at hv
  split at hv
  · rename_i ok
    unfold bindOk at ok
    simp only [Bool.and_eq_true, List.all_eq_true, decide_eq_true_eq, Bool.not_eq_true', Bool.or_eq_true, List.contains_iff_mem] at ok
    obtain ⟨⟨⟨⟨⟨⟨o1, o2⟩, o3⟩, o4⟩, o5⟩, o6⟩, o7⟩ := ok
    unfold bindArgs PySem.W.fnOf
    simp only [h0, h1, h2, hP, hQ, List.map_nil, List.nil_append]
    have z1 : ∀ (xs : List Str) (us : List Value) (y : Str), (xs.zip us).lookup y = none ↔ y ∉ xs.take us.length := fun xs us y => by
      rw [lookup_none]
      have : (xs.zip us).map (·.1) = xs.take us.length := by
        induction xs generalizing us with
        | nil => simp
        | cons x xs ih =>
          cases us with
          | nil => simp
          | cons u us => simp [ih us]
      rw [this]
    refine PySem.W.Looks.andThen (a := (P.zip us ++ kw, [])) (.of_pure (loop1 (c := fun k => P.contains k || Q.contains k) (fun kv sl ex hc hn => ?_) kw (P.zip us) [] (fun kv hkv => ?_) (fun kv hkv => ?_) o2)) ?_
    · dsimp only
      rw [if_pos hc, hn]
      rfl
    · have := (o5 kv.1 (List.mem_map_of_mem hkv)).2
      simpa using this
    · have := (o5 kv.1 (List.mem_map_of_mem hkv)).1
      exact (z1 P us kv.1).mpr (by simpa using this)
    · refine PySem.W.Looks.andThen hD ?_
      have eits : ((if its = [] then none else some its.toArray).getD #[]).toList = its := by
        by_cases e : its = []
        · rw [if_pos e, e]; rfl
        · rw [if_neg e]; rfl
      simp only [eits]
      rw [if_neg (by simp; omega)]
      have ed : List.drop (its.length - P.length) its = its := by rw [show its.length - P.length = 0 from by omega]; rfl
      simp only [ed]
      have em : List.filter (fun n => (List.lookup n (P.zip us ++ kw)).isNone) (List.take (P.length - its.length) P) = [] := by
        rw [List.filter_eq_nil_iff]
        intro y hy hn
        rw [Option.isNone_iff_eq_none, lookup_app, Option.or_eq_none_iff] at hn
        rcases o6 y hy with z | z
        · exact (z1 P us y).mp hn.1 z
        · exact lookup_none.mp hn.2 z
      rw [em, if_neg (by simp)]
      refine loop2_then (fun kv sl => rfl) fun L hL => ?_
      refine loop3_then (kd := kd) (fun n hn => ?_) (fun n sl ms v e => ?_) (fun n sl ms v e ek => ?_) fun L3 hL3 => ?_
      · rcases o7 n hn with z | z
        · left
          rw [hL n, lookup_app, lookup_app]
          obtain ⟨v, ev⟩ := lookup_some z
          rw [ev]
          cases (P.zip us).lookup n <;> rfl
        · right
          obtain ⟨v, ev⟩ := lookup_some z
          rw [ev]
          rfl
      · dsimp only
        rw [e]
        rfl
      · dsimp only
        rw [e, if_pos (by rfl)]
        rcases hK with z | ⟨D, z, hd⟩
        · rw [z] at ek
          cases ek
        · subst z
          exact (hd n v ek).andThen .now
      · rw [if_neg (by simp)]
        refine PySem.W.Looks.of_pure ?_
        have eb : (P ++ Q).filterMap (fun n => (List.lookup n L3).map fun v => (n, v)) = (P ++ Q).zip vals := by
          have hx : ∀ y, List.lookup y L3 = (bindL4 P Q us kw its kd).lookup y := fun y => by
            rw [hL3 y, lookup_app, hL y]
            unfold bindL4
            rw [lookup_app y (P.zip us ++ kw ++ _)]
          have hm : ∀ (xs : List Str) (vs : List Value), mapO (fun x => (bindL4 P Q us kw its kd).lookup x) xs = some vs → xs.filterMap (fun n => (List.lookup n L3).map fun v => (n, v)) = xs.zip vs := by
            intro xs
            induction xs with
            | nil => intro vs _; simp
            | cons y xs ih =>
              intro vs hvs
              unfold mapO at hvs
              cases e1 : (bindL4 P Q us kw its kd).lookup y with
              | none => rw [e1] at hvs; cases hvs
              | some v =>
                rw [e1] at hvs
                cases e2 : mapO (fun x => (bindL4 P Q us kw its kd).lookup x) xs with
                | none => rw [e2] at hvs; cases hvs
                | some ws =>
                  rw [e2] at hvs
                  cases hvs
                  rw [List.filterMap_cons, hx y, e1]
                  show (y, v) :: _ = _
                  rw [ih ws e2]
                  rfl
          exact hm _ _ hv
        rw [← eb]
  · cases hv
end Ev
set_option Elab.async false
set_option linter.all false
set_option maxRecDepth 100000
set_option maxHeartbeats 4000000
/-! Calls of the program's defs. -/
namespace Ev
open PySem PySem.Spec PyProof.Rows L2

inductive All2 {α β : Type} (R : α → β → Prop) : List α → List β → Prop
  | nil : All2 R [] []
  | cons {a : α} {b : β} {as : List α} {bs : List β} : R a b → All2 R as bs → All2 R (a :: as) (b :: bs)
inductive KAll2 {κ α β : Type} (R : α → β → Prop) : List (κ × α) → List (κ × β) → Prop
  | nil : KAll2 R [] []
  | cons {k : κ} {a : α} {b : β} {as : List (κ × α)} {bs : List (κ × β)} : R a b → KAll2 R as bs → KAll2 R ((k, a) :: as) ((k, b) :: bs)
section
variable {α β κ : Type} {R : α → β → Prop}
theorem All2.length : ∀ {as : List α} {bs : List β}, All2 R as bs → as.length = bs.length
  | _, _, .nil => rfl
  | _, _, .cons _ l => congrArg Nat.succ (All2.length l)
theorem KAll2.keys : ∀ {as : List (κ × α)} {bs : List (κ × β)}, KAll2 R as bs → as.map (·.1) = bs.map (·.1)
  | _, _, .nil => rfl
  | _, _, .cons _ l => congrArg (List.cons _) (KAll2.keys l)
theorem All2.zip : ∀ {as : List α} {bs : List β} (xs : List κ), All2 R as bs → KAll2 R (xs.zip as) (xs.zip bs)
  | _, _, [], _ => .nil
  | _, _, _ :: _, .nil => .nil
  | _, _, _ :: xs, .cons h l => .cons h (All2.zip xs l)
theorem KAll2.append : ∀ {as cs : List (κ × α)} {bs ds : List (κ × β)}, KAll2 R as bs → KAll2 R cs ds → KAll2 R (as ++ cs) (bs ++ ds)
  | _, _, _, _, .nil, s => s
  | _, _, _, _, .cons h l, s => .cons h (KAll2.append l s)
theorem KAll2.lookup {as : List (Str × α)} {bs : List (Str × β)} (h : KAll2 R as bs) (x : Str) : (as.lookup x = none ∧ bs.lookup x = none) ∨ ∃ a b, as.lookup x = some a ∧ bs.lookup x = some b ∧ R a b := by
  induction h with
  | nil => exact .inl ⟨rfl, rfl⟩
  | @cons k a b as bs r l ih =>
    rw [List.lookup_cons, List.lookup_cons]
    cases (x == k) with
    | true => exact .inr ⟨a, b, rfl, rfl, r⟩
    | false => exact ih
theorem KAll2.filt {as : List (Str × α)} {bs : List (Str × β)} (h : KAll2 R as bs) : ∀ Q : List Str, KAll2 R (Q.filterMap fun n => (as.lookup n).map (n, ·)) (Q.filterMap fun n => (bs.lookup n).map (n, ·))
  | [] => .nil
  | n :: Q => by
    have ih := KAll2.filt h Q
    rw [List.filterMap_cons, List.filterMap_cons]
    rcases h.lookup n with ⟨e1, e2⟩ | ⟨a, b, e1, e2, r⟩
    · rw [e1, e2]
      exact ih
    · rw [e1, e2]
      exact .cons r ih
theorem All2.mapO {as : List (Str × α)} {bs : List (Str × β)} (h : KAll2 R as bs) : ∀ (Q : List Str) (vs : List α), Ev.mapO (fun x => as.lookup x) Q = some vs → ∃ ws, Ev.mapO (fun x => bs.lookup x) Q = some ws ∧ All2 R vs ws
  | [], vs, e => by cases e; exact ⟨[], rfl, .nil⟩
  | n :: Q, vs, e => by
    unfold Ev.mapO at e
    rcases h.lookup n with ⟨e1, e2⟩ | ⟨a, b, e1, e2, r⟩
    · rw [e1] at e
      cases e
    · rw [e1] at e
      cases e3 : Ev.mapO (fun x => as.lookup x) Q with
      | none => rw [e3] at e; cases e
      | some us =>
        rw [e3] at e
        cases e
        obtain ⟨ws, e4, l⟩ := All2.mapO h Q us e3
        refine ⟨b :: ws, ?_, .cons r l⟩
        unfold Ev.mapO
        rw [e2, e4]
theorem bindG_par {P Q : List Str} {us its vs : List α} {us' its' : List β} {kw kd : List (Str × α)} {kw' kd' : List (Str × β)} (h1 : All2 R us us') (h2 : KAll2 R kw kw') (h3 : All2 R its its') (h4 : KAll2 R kd kd') (e : bindG P Q us kw its kd = some vs) :
    ∃ vs', bindG P Q us' kw' its' kd' = some vs' ∧ All2 R vs vs' := by
  unfold bindG at e ⊢
  rw [h1.length, h2.keys, h3.length, h4.keys] at e
  split at e
  · rename_i ok
    rw [if_pos ok]
    refine All2.mapO ?_ _ _ e
    unfold bindL4
    rw [h3.length]
    exact (((h1.zip P).append h2).append (h3.zip _)).append (h4.filt Q)
  · cases e
end
theorem all_vals : ∀ {vs : List V} {us : List Value}, Vals vs us → All2 RelV vs us
  | _, _, .nil => .nil
  | _, _, .cons h l => .cons h (all_vals l)
theorem vals_all : ∀ {vs : List V} {us : List Value}, All2 RelV vs us → Vals vs us
  | _, _, .nil => .nil
  | _, _, .cons h l => .cons h (vals_all l)
theorem all_rep {p : Pw} {ι : List Addr} {H : Hp} : ∀ {vs : List V} {ds : List D}, RepL p ι H vs ds → All2 (fun d v => Rep p ι H v d) ds vs
  | _, _, .nil => .nil
  | _, _, .cons h l => .cons h (all_rep l)
theorem rep_all {p : Pw} {ι : List Addr} {H : Hp} : ∀ {ds : List D} {vs : List V}, All2 (fun d v => Rep p ι H v d) ds vs → RepL p ι H vs ds
  | _, _, .nil => .nil
  | _, _, .cons h l => .cons h (rep_all l)
theorem kall_rep {p : Pw} {ι : List Addr} {H : Hp} {κ : Type} : ∀ {vs : List (κ × V)} {ds : List (κ × D)}, RepK p ι H vs ds → KAll2 (fun d v => Rep p ι H v d) ds vs
  | _, _, .nil => .nil
  | _, _, .cons h l => .cons h (kall_rep l)
theorem kall_zip {α β : Type} {R : α → β → Prop} : ∀ {kws : List (Str × α)} {ws : List β}, All2 R (kws.map (·.2)) ws → KAll2 R kws ((kws.map (·.1)).zip ws)
  | [], _, .nil => .nil
  | (_, _) :: _, _, .cons h l => .cons h (kall_zip l)

/-- plain parameters: no stars -/
structure Plain (params : Arguments) (P Q : List Str) : Prop where
  po : params.posonlyargs = []
  va : params.vararg = none
  kw : params.kwarg = none
  pos : params.args.map (·.arg) = P
  kwo : params.kwonlyargs.map (·.arg) = Q
theorem bind_fun {K : PySem.W.Frag} {x qual : Str} {params : Arguments} {body : List Stmt} {scope : Scope} {dvs : List V} {kws : List (Str × V)} {f : Addr} {fd : FuncData} {P Q : List Str} (F : FunD K x qual params body scope dvs kws f fd) (hp : Plain params P Q)
    {vs wv : List V} {us : List Value} {kz : List (Str × V)} {kw : List (Str × Value)} (r : Vals vs us) (rk : KAll2 RelV kz kw) (e : bindG P Q vs kz dvs kws = some wv) : ∃ vals : List Value, Vals wv vals ∧ ∀ s : Shared, K.In s.heap → BindsTo s fd ⟨us, kw⟩ ((P ++ Q).zip vals) := by
  obtain ⟨oc, od, dV, kV, doc, pm, an, cdv, ct, osl, rfl, lk, hcd, hD, hK⟩ := F.ex
  obtain ⟨its, rI, hI⟩ : ∃ its : List Value, Vals dvs its ∧ ∀ (M : Model) (h : Heap), K.In h → PySem.W.Looks M h (seqItems? dV) (if its = [] then none else some its.toArray) := by
    rcases hD with ⟨e1, e2⟩ | ⟨ne, T, o, its, n, e2, lT, oT, rT⟩
    · subst e1; subst e2
      exact ⟨[], .nil, fun M h _ => .of_pure rfl⟩
    · subst e2
      refine ⟨its, rT, fun M h X => ?_⟩
      have ni : its ≠ [] := fun z => by
        subst z
        cases rT
        exact ne rfl
      rw [if_neg ni]
      exact fun A Q E s kp q => wpAny_seqItems (kp _ _ (X _ _ lT)) oT q
  obtain ⟨kd, rK, hKd⟩ : ∃ kd : List (Str × Value), KAll2 RelV kws kd ∧ ∀ (M : Model) (h : Heap), K.In h → (kd = [] ∨ ∃ D, kV = .ref D ∧ ∀ n v, kd.lookup n = some v → PySem.W.Looks M h (nsGet D n) (some v)) := by
    rcases hK with e1 | ⟨D, e1, hq⟩
    · subst e1
      exact ⟨[], .nil, fun _ _ _ => .inl rfl⟩
    · obtain ⟨us, hl, rk, hks⟩ := kwd_vals hq
      refine ⟨(kws.map (·.1)).zip us, kall_zip (all_vals rk), fun M h X => .inr ⟨D, e1, fun n v hn => PySem.W.looks_nsIn X (hks (n, v) ?_)⟩⟩
      exact PySem.mem_of_lookup hn
  obtain ⟨vals, e3, rv⟩ := bindG_par (all_vals r) rk (all_vals rI) rK e
  exact ⟨vals, vals_all rv, fun s X => BindsTo.of_looks fun M => bind_looks hp.po hp.va hp.kw hp.pos hp.kwo (hI M s.heap X) (hKd M s.heap X) e3⟩
end Ev
set_option Elab.async false
set_option linter.all false
set_option maxRecDepth 100000
set_option maxHeartbeats 4000000
/-! Calls of the program's defs, classes, methods. -/
namespace Ev
open PySem PySem.Spec PyProof.Rows L2

abbrev Tb := Str → List D → Store → R D
/-- a def's promise by its denotation -/
def spF [DecidableEq Str] [DecidableEq Key] [DecidableEq String] [(α : Type) → GetElem? (List α) Nat α fun l i => i < l.length] [(α : Type) → Append (List α)] [(i j : Int) → Decidable (i < j)] [(i j : Int) → Decidable (i ≤ j)] (p : Pw) (n : Nat) (d : List D → Store → R D) : Sp := fun vs H Q E => ∃ ι M ds, RepM p ι H M ∧ RepL p ι H vs ds ∧ ds.length = n ∧ Post p ι H (Rep p) Q E (d ds M)
/-- what the program is, for calls -/
structure FactsF (P : Program) (w : World) (K : PySem.W.Frag) (mg : Str → Option Value) (gf : Gf) (adr : Str → Addr) : Prop where
  fn : ∀ k i, gf.fns.lookup k = some i → ∃ fd dvs kws, FunD K i.x i.q i.params i.body i.scope dvs kws (adr k) fd ∧ (∀ ι H, RepL ⟨K, mg⟩ ι H dvs i.dvs) ∧ (∀ ι H, RepK ⟨K, mg⟩ ι H kws i.kws) ∧ Plain i.params i.P i.Q ∧ FnScope i.N (i.P ++ i.Q) i.scope
  top : ∀ k i, gf.fns.lookup k = some i → i.top = true → mg k = some (.ref (adr k))
  mt : ∀ c ms m k, gf.mts.lookup c = some ms → ms.lookup m = some k → Meth K (He.ga K c) m (adr k) ∧ Cls K (He.ga K c)
  ini0 : ∀ c, gf.mk0.contains c = true → PySem.W.makesIn K (He.ga K c) = true ∧ PySem.W.findIn K (.ref (He.ga K c)) "__init__" = some (some (.builtin "object.__init__")) ∧ PySem.W.mroIn K (He.ga K c) (.type "object") = some true ∧ PySem.W.keepIn K (.ref (He.ga K c)) = true ∧ mg c = some (.ref (He.ga K c))
  ini : ∀ c k, gf.mks.lookup c = some k → Mk K (He.ga K c) (adr k) ∧ mg c = some (.ref (He.ga K c))
/-- a def's promise where no guard stands (a repr asks that) -/
structure FnG (P : Program) (w : World) (K : PySem.W.Frag) (mg : Str → Option Value) (base : Heap) (k : Nat) (f : Addr) (fd : FuncData) (ps : List Str) (sp : Sp) : Prop where
  len : ∀ vs H Q E, sp vs H Q E → vs.length = ps.length
  run : ∀ (A : Around) (outer : List Env) (s : Shared) (H : Hp) (args : Args) (us : List Value) (vs : List V) (Q : VK) (E : XK), A.guards = some [] → Room k A → Env0 P w K mg base A outer s H → BindsTo s fd args (ps.zip us) → Vals vs us → sp vs H Q E →
    codeAny (model P w) A (.call (.ref f) args) (CR (L2.CX P w) outer P w H s Q E) s
theorem guards_deeper {A : Around} {env : Env} (h : A.guards = some []) : (A.deeper env).guards = some [] := h
theorem guards_in1 {A : Around} (h : A.guards = some []) : A.in1.guards = some [] := h
theorem guards_make {A : Around} {C : Addr} {us : List Value} {kw : List (Str × Value)} (h : A.guards = some []) : (A.under (.builtin "type.__call__" ⟨.ref C :: us, kw⟩)).guards = some [] := by
  first | exact h | (simp [Around.under, Code.guards, Code.isGuard, guardIds, pushGuards, h]; done)
/-- every def keeps its promise, k deep -/
def AllOk [DecidableEq Str] [DecidableEq Key] [DecidableEq String] [(α : Type) → GetElem? (List α) Nat α fun l i => i < l.length] [(α : Type) → Append (List α)] [(i j : Int) → Decidable (i < j)] [(i j : Int) → Decidable (i ≤ j)] (P : Program) (w : World) (K : PySem.W.Frag) (mg : Str → Option Value) (base : Heap) (gf : Gf) (adr : Str → Addr) (k : Nat) (T : Tb) : Prop :=
  ∀ key i fd dvs kws, gf.fns.lookup key = some i → FunD K i.x i.q i.params i.body i.scope dvs kws (adr key) fd → FnG P w K mg base k (adr key) fd (i.P ++ i.Q) (spF ⟨K, mg⟩ (i.P ++ i.Q).length (T key))

def callF [DecidableEq Str] [DecidableEq Key] [DecidableEq String] [(α : Type) → GetElem? (List α) Nat α fun l i => i < l.length] [(α : Type) → Append (List α)] [(i j : Int) → Decidable (i < j)] [(i j : Int) → Decidable (i ≤ j)] (gf : Gf) (T : Tb) (key : Str) (ds : List D) (kes : List (Str × D)) (M : Store) : R D := match gf.fns.lookup key with
  | some i => (match bindG i.P i.Q ds kes i.dvs i.kws with
    | some full => if full.length = (i.P ++ i.Q).length then T key full M else .no
    | none => .no)
  | none => .no
def makeF [DecidableEq Str] [DecidableEq Key] [DecidableEq String] [(α : Type) → GetElem? (List α) Nat α fun l i => i < l.length] [(α : Type) → Append (List α)] [(i j : Int) → Decidable (i < j)] [(i j : Int) → Decidable (i ≤ j)] (gf : Gf) (T : Tb) (c : Str) (ds : List D) (kes : List (Str × D)) (M : Store) : R D := match gf.mks.lookup c with
  | some key => (callF gf T key (.ref M.length :: ds) kes (M ++ [.ins c []])).bind fun d M1 => (match d with
    | .non => .ok (.ref M.length) M1
    | _ => .no)
  | none => .no
/-- the class of an instance, and the def of its method -/
def methKey [DecidableEq Str] [DecidableEq Key] [DecidableEq String] [(α : Type) → GetElem? (List α) Nat α fun l i => i < l.length] [(α : Type) → Append (List α)] [(i j : Int) → Decidable (i < j)] [(i j : Int) → Decidable (i ≤ j)] (gf : Gf) (M : Store) (x : D) (m : Str) : Option Str := match x with
  | .ref r => (match M[r]? with
    | some (.ins c fs) => if (fs.lookup m).isNone then (gf.mts.lookup c).bind fun ms => ms.lookup m else none
    | _ => none)
  | _ => none
def methF [DecidableEq Str] [DecidableEq Key] [DecidableEq String] [(α : Type) → GetElem? (List α) Nat α fun l i => i < l.length] [(α : Type) → Append (List α)] [(i j : Int) → Decidable (i < j)] [(i j : Int) → Decidable (i ≤ j)] (gf : Gf) (T : Tb) (m : Str) (x : D) (ds : List D) (kes : List (Str × D)) (M : Store) : R D := match methKey gf M x m with
  | some key => callF gf T key (x :: ds) kes M
  | none => .no

/-! ### trees without stars -/
def isStar [DecidableEq Str] [DecidableEq Key] [DecidableEq String] [(α : Type) → GetElem? (List α) Nat α fun l i => i < l.length] [(α : Type) → Append (List α)] [(i j : Int) → Decidable (i < j)] [(i j : Int) → Decidable (i ≤ j)] : Expr → Bool
  | .Starred _ _ => true
  | _ => false
theorem star_cons {e : Expr} {es : List Expr} {env : Env} (h : isStar e = false) : starEach (e :: es) env = (false, eval e env) :: starEach es env := by
  cases e <;> first | rfl | cases h
theorem star_any {env : Env} {pos : Pos} : ∀ {es : List Expr}, es.all (fun e => !isStar e) = true → (backTo pos (starEach es env)).any (·.1) = false
  | [], _ => rfl
  | e :: es, h => by
    rw [List.all_cons, Bool.and_eq_true] at h
    rw [star_cons (by simpa using h.1)]
    exact star_any h.2
def kwNames [DecidableEq Str] [DecidableEq Key] [DecidableEq String] [(α : Type) → GetElem? (List α) Nat α fun l i => i < l.length] [(α : Type) → Append (List α)] [(i j : Int) → Decidable (i < j)] [(i j : Int) → Decidable (i ≤ j)] (kws : List Keyword) : List Str := kws.filterMap fun | ⟨n, _, _⟩ => n
def kwAll [DecidableEq Str] [DecidableEq Key] [DecidableEq String] [(α : Type) → GetElem? (List α) Nat α fun l i => i < l.length] [(α : Type) → Append (List α)] [(i j : Int) → Decidable (i < j)] [(i j : Int) → Decidable (i ≤ j)] (kws : List Keyword) : Bool := kws.all fun | ⟨n, _, _⟩ => n.isSome
theorem kw_hall {env : Env} {pos : Pos} : ∀ {kws : List Keyword}, kwAll kws = true → (backToKw pos (keywordEach kws env)).all (·.1.isSome) = true
  | [], _ => rfl
  | ⟨n, v, p⟩ :: kws, h => by
    unfold kwAll at h
    rw [List.all_cons, Bool.and_eq_true] at h
    have h1 : n.isSome = true := h.1
    show (n.isSome && (backToKw pos (keywordEach kws env)).all (·.1.isSome)) = true
    rw [kw_hall (kws := kws) h.2, h1]
    rfl
theorem kw_none {env : Env} {pos : Pos} : ∀ {kws : List Keyword}, kwAll kws = true → (backToKw pos (keywordEach kws env)).any (·.1.isNone) = false
  | [], _ => rfl
  | ⟨n, v, p⟩ :: kws, h => by
    unfold kwAll at h
    rw [List.all_cons, Bool.and_eq_true] at h
    show (n.isNone || (backToKw pos (keywordEach kws env)).any (·.1.isNone)) = false
    rw [kw_none (kws := kws) h.2]
    cases n with
    | none => cases h.1
    | some _ => rfl
theorem kw_names {env : Env} {pos : Pos} : ∀ {kws : List Keyword}, (backToKw pos (keywordEach kws env)).filterMap (·.1) = kwNames kws
  | [] => rfl
  | ⟨n, v, p⟩ :: kws => by
    have ih := kw_names (env := env) (pos := pos) (kws := kws)
    unfold kwNames at ih ⊢
    rw [List.filterMap_cons]
    show List.filterMap _ ((n, _) :: backToKw pos (keywordEach kws env)) = _
    rw [List.filterMap_cons, ih]

section
variable {X : Cx} {W : WX} {gf : Gf} {adr : Str → Addr} {T : Tb} {k : Nat} {a b c e o : Expr} {es rest : List Expr} {da db dc dd : ED} {dr dk : AD} {pos apos pos' p : Pos} {pins : List (Addr × Obj)} {σ : L2.St} {H : Hp} {s : Shared} {ι : List Addr} {ρ : Env1} {M : Store} {x m : Str} {kws : List Keyword}
theorem _root_.L2.PK.imp {t t' : TA} (h : PK X kws t) (q : ∀ σ H Q, t' σ H Q → t σ H Q) : PK X kws t' := ⟨fun ps pins s σ H Q I z => h.run ps pins s σ H Q I (q σ H Q z)⟩
theorem qk_nil : PK X [] (rA X W dNil) := pk_nil.imp fun σ H Q ⟨ι, ρ, M, rm, re, q⟩ => q ι H [] .refl rm .nil
theorem qk_cons {nm : Option Str} {kpos : Pos} (ha : PE X e (rE X W da)) (hr : PK X kws (rA X W dr)) : PK X (⟨nm, e, kpos⟩ :: kws) (rA X W (dCons da dr)) :=
  (pk_cons ha hr).imp fun σ H Q ⟨ι, ρ, M, rm, re, q⟩ => by
    refine ⟨ι, ρ, M, rm, re, (Post.bind q).imp fun x H1 ⟨ι1, d, M1, m1, rm1, rx, q1⟩ => ?_⟩
    refine ⟨ι1, ρ, M1, rm1, re.mono m1, (Post.bind q1).imp fun ys H2 ⟨ι2, ds, M2, m2, rm2, ry, q2⟩ => ?_⟩
    exact q2 ι2 H2 _ .refl rm2 (.cons (rx.mono m2) ry)
theorem kall_zipR {ks : List Str} : ∀ {vs : List V} {ds : List D}, RepL (pw X) ι H vs ds → KAll2 (fun d v => Rep (pw X) ι H v d) (ks.zip ds) (ks.zip vs) := fun l => (all_rep l).zip ks
/-- the callee runs -/
theorem run_call {A' : Around} {key : Str} {us ws : List Value} {vs zs : List V} {ds es' : List D} {ks : List Str} {Q : VK} (F : FactsF X.prog X.w X.K X.mg gf adr) (hT : AllOk X.prog X.w X.K X.mg X.base gf adr k T) (hr : Room k A') (gd : A'.guards = some []) (e0 : Env0 X.prog X.w X.K X.mg X.base A' X.stack s H) (tk : Takes X W)
    (I : Inv X pins σ H s) (rm : RepM (pw X) ι H M) (ru : Vals vs us) (rz : Vals zs ws) (rv : RepL (pw X) ι H vs ds) (re : RepL (pw X) ι H zs es') (q : Post (pw X) ι H (Rep (pw X)) Q (WE W σ) (callF gf T key ds (ks.zip es') M)) :
    wpAny (model X.prog X.w) A' (call (.ref (adr key)) us (ks.zip ws)) (EP X pins σ Q) X.xe s := by
  unfold callF at q
  split at q
  · rename_i i hi
    split at q
    · rename_i full hf
      split at q
      · rename_i hlen
        obtain ⟨fd, dvs, kws, FD, rd, rk, hp, hs⟩ := F.fn key i hi
        obtain ⟨wv, e1, l1⟩ := bindG_par (all_rep rv) (kall_zipR (ks := ks) re) (all_rep (rd ι H)) (kall_rep (rk ι H)) hf
        obtain ⟨vals, r2, hb⟩ := bind_fun FD hp ru ((all_vals rz).zip ks) e1
        have rl := rep_all l1
        refine wpAny_call (codeAny_mono ((hT key i fd dvs kws hi FD).run A' X.stack s H ⟨us, ks.zip ws⟩ vals wv Q (WE W σ) gd hr e0 (hb s I.kIn) r2 ⟨ι, M, full, rm, rl, hlen, q⟩) fun r s' hq => ?_)
        cases r with
        | error e => exact passAt tk σ pins H s e s' I hq
        | ok fl =>
          cases fl with
          | ret u => exact I.after hq
          | next => exact False.elim hq
          | brk => exact False.elim hq
          | cont => exact False.elim hq
      · exact q.elim
    · exact q.elim
  · exact q.elim
/-- a value that is called without a look at what keeps the arguments -/
def Kept [DecidableEq Str] [DecidableEq Key] [DecidableEq String] [(α : Type) → GetElem? (List α) Nat α fun l i => i < l.length] [(α : Type) → Append (List α)] [(i j : Int) → Decidable (i < j)] [(i j : Int) → Decidable (i ≤ j)] (K : PySem.W.Frag) (M : Model) (f : Value) : Prop := ∀ h, K.In h → ∃ k, (k = Keeper.frame ∨ k = Keeper.machine ∨ k = Keeper.boundFrame) ∧ PySem.W.Looks M h (keeperOf f) k
theorem kept_of {K : PySem.W.Frag} {M : Model} {f : Value} (hk : PySem.W.keepIn K f = true) : Kept K M f := PySem.W.keeps_K hk
theorem kept_b {K : PySem.W.Frag} {M : Model} {id : String} : Kept K M (.builtin id) := fun _ _ => ⟨.machine, .inr (.inl rfl), .of_pure rfl⟩
/-- the arguments of a call, then the keywords', then what is called -/
theorem call_with {f : Value} {first : List Value} {Q : Value → Shared → Prop} (hk : Kept X.K (model X.prog X.w) f) (I : Inv X pins σ H s) (ha : PA X es (rA X W dr)) (hkw : PK X kws (rA X W dk)) (hn : es = [] → dr = dNil) (hs : es.all (fun e => !isStar e) = true) (hw : kwAll kws = true)
    (rm : RepM (pw X) ι H M) (re : RepE (pw X) ι H σ ρ) (ψ : List D → List D → Store → R D) (Q' : VK) (q : Post (pw X) ι H (Rep (pw X)) Q' (WE W σ) ((dr ρ M).bind fun ds M1 => (dk ρ M1).bind fun es' M2 => ψ ds es' M2))
    (h : ∀ s2 H2 ι2 M2 us vs ds ws zs es', Inv X pins σ H2 s2 → Mono ι H ι2 H2 → RepM (pw X) ι2 H2 M2 → Vals vs us → Vals zs ws → RepL (pw X) ι2 H2 vs ds → RepL (pw X) ι2 H2 zs es' → Post (pw X) ι2 H2 (Rep (pw X)) Q' (WE W σ) (ψ ds es' M2) →
      wpAny (model X.prog X.w) X.A (call f (first ++ us) ((kwNames kws).zip ws)) Q X.xe s2) :
    wpAny (model X.prog X.w) X.A (callWith pos f first (backTo pos (starEach es X.env)) (backToKw pos (keywordEach kws X.env))) Q X.xe s := by
  have q1 := Post.bind (rel := RepL (pw X)) q
  have fin : ∀ {us : List Value} {vs : List V} {ds : List D} {ι1 : List Addr} {M1 : Store} {s1 : Shared} {H1 : Hp}, Inv X pins σ H1 s1 → Mono ι H ι1 H1 → RepM (pw X) ι1 H1 M1 → Vals vs us → RepL (pw X) ι1 H1 vs ds →
      Post (pw X) ι1 H1 (Rep (pw X)) Q' (WE W σ) ((dk ρ M1).bind fun es' M2 => ψ ds es' M2) → wpAny (model X.prog X.w) X.A (evalAll ((backToKw pos (keywordEach kws X.env)).map (·.2)))
        (fun ks s₂ => X.K.In s₂.heap ∧ wpAny (model X.prog X.w) X.A (call f (first ++ us) (((backToKw pos (keywordEach kws X.env)).filterMap (·.1)).zip ks)) Q X.xe s₂) X.xe s1 := fun {us vs ds ι1 M1 s1 H1} I1 m1 rm1 ru rv q2 => by
    refine thn (hkw.run pos pins s1 σ H1 _ I1 ⟨ι1, ρ, M1, rm1, re.mono m1, Post.bind (rel := RepL (pw X)) q2⟩) fun ws s2 ⟨zs, H2, I2, rz, ι2, es', M2, m2, rm2, rz', q3⟩ => ⟨I2.kIn, ?_⟩
    rw [kw_names]
    exact h s2 H2 ι2 M2 us vs ds ws zs es' I2 (m1.trans m2) rm2 ru rz (rv.mono m2) rz' q3
  cases es with
  | nil =>
    refine PySem.W.callWith_of (P := fun h => X.K.In h) (by rw [kw_none hw]; rfl) hk (evalArgs_kw2_nil (kw_hall hw) ?_)
    rw [hn rfl] at q
    exact fin (us := []) (vs := []) (ds := []) (ι1 := ι) (M1 := M) I .refl rm .nil .nil q
  | cons e es =>
    rw [List.all_cons, Bool.and_eq_true] at hs
    have he := star_cons (es := es) (env := X.env) (by simpa using hs.1)
    refine PySem.W.callWith_of (P := fun h => X.K.In h) ?_ hk (evalArgs_kw2 (kw_hall hw) (thn (ha.run pos pins s σ H _ I ⟨ι, ρ, M, rm, re, q1⟩) fun us s1 ⟨vs, H1, I1, ru, ι1, ds, M1, m1, rm1, rv, q2⟩ => fin I1 m1 rm1 ru rv q2) he)
    rw [kw_none hw, Bool.or_false, he]
    exact star_any hs.2
/-- ψ by the arguments -/
def argsE [DecidableEq Str] [DecidableEq Key] [DecidableEq String] [(α : Type) → GetElem? (List α) Nat α fun l i => i < l.length] [(α : Type) → Append (List α)] [(i j : Int) → Decidable (i < j)] [(i j : Int) → Decidable (i ≤ j)] (dr dk : AD) (ψ : List D → List D → Store → R D) : ED := fun ρ M => (dr ρ M).bind fun ds M1 => (dk ρ M1).bind fun es' M2 => ψ ds es' M2
/-- f(..) -/
theorem q_call (F : FactsF X.prog X.w X.K X.mg gf adr) (hT : AllOk X.prog X.w X.K X.mg X.base gf adr k T) (hr : Room k X.A) (gd : X.A.guards = some []) (tk : Takes X W) (hg : Gl X x) (hdb : (x == ("__debug__" : Str)) = false) (ht : (match gf.fns.lookup x with | some i => i.top | none => false) = true)
    (ha : PA X es (rA X W dr)) (hkw : PK X kws (rA X W dk)) (hn : es = [] → dr = dNil) (hs : es.all (fun e => !isStar e) = true) (hw : kwAll kws = true) :
    PE X (.Call (.Name x p) es kws pos) (rE X W (argsE dr dk fun ds es' => callF gf T x ds ((kwNames kws).zip es'))) := by
  refine ⟨fun pins s σ H Q I ⟨ι, ρ, M, rm, re, q⟩ => ?_⟩
  split at ht
  · rename_i i hi
    have hm := F.top x i hi ht
    obtain ⟨fd, dvs, kws', FD, _⟩ := F.fn x i hi
    refine wpAny_Call_Name_kw (ld_glob I hg hm ?_ hdb)
    refine call_with (kept_of FD.kp) I ha hkw hn hs hw rm re _ Q q fun s2 H2 ι2 M2 us vs ds ws zs es' I2 m2 rm2 ru rz rv rz' q2 => ?_
    exact run_call F hT hr gd I2.env0 tk I2 rm2 ru rz rv rz' q2
  · cases ht
/-- o.m(..) -/
theorem q_meth {pl : Sem Bool} (F : FactsF X.prog X.w X.K X.mg gf adr) (hT : AllOk X.prog X.w X.K X.mg X.base gf adr k T) (hr : Room k X.A) (gd : X.A.guards = some []) (tk : Takes X W)
    (ho : PE X o (rE X W da)) (ha : PA X es (rA X W dr)) (hkw : PK X kws (rA X W dk)) (hn : es = [] → dr = dNil) (hs : es.all (fun e => !isStar e) = true) (hw : kwAll kws = true)
    (ht : eval (.Call (.Attribute o m apos) es kws pos) X.env = (do
      let ov ← eval o X.env
      standAt apos.atName
      let (f, first) ← holding [ov] (getMethod ov m pl)
      callWith pos f first (backTo pos (starEach es X.env)) (backToKw pos (keywordEach kws X.env)))) :
    PE X (.Call (.Attribute o m apos) es kws pos) (rE X W fun ρ M => (da ρ M).bind fun x M1 => match methKey gf M1 x m with
      | some key => argsE dr dk (fun ds es' => callF gf T key (x :: ds) ((kwNames kws).zip es')) ρ M1
      | none => .no) := by
  refine ⟨fun pins s σ H Q I ⟨ι, ρ, M, rm, re, q⟩ => ?_⟩
  refine PySem.W.methodCall_KW (pl := pl) (thn (ho.run pins s σ H _ I ⟨ι, ρ, M, rm, re, Post.bind q⟩) fun u s1 ⟨xv, H1, I1, rx, ι1, x', M1, m1, rm1, hx, q1⟩ => ?_) ht
  cases ek : methKey gf M1 x' m with
  | none => rw [ek] at q1; exact q1.elim
  | some key =>
    rw [ek] at q1
    unfold methKey at ek
    split at ek
    · rename_i r
      cases hx with
      | @ref a _ hi =>
      obtain rfl : u = Value.ref a := rx
      split at ek
      · rename_i c fs hc
        obtain ⟨dx, vs0, ha0, l⟩ := rm1.at_ r a _ hi hc
        split at ek
        · rename_i hnone
          have hl : vs0.lookup m = none := by
            have := l.lookup m
            rw [Option.isNone_iff_eq_none.mp hnone] at this
            exact this
          obtain ⟨ms, e1, e2⟩ := Option.bind_eq_some_iff.mp ek
          obtain ⟨hm, hc'⟩ := F.mt c ms m key e1 e2
          refine getmeth_ok I1 ha0 hc' hm hl ?_
          refine call_with (first := [.ref a]) (kept_of hm.kp) I1 ha hkw hn hs hw rm1 (re.mono m1) _ Q q1 fun s2 H2 ι2 M2 us vs ds ws zs es' I2 m2 rm2 ru rz rv rz' q2 => ?_
          exact run_call (us := .ref a :: us) (vs := .ref a :: vs) (ds := .ref r :: ds) F hT hr gd I2.env0 tk I2 rm2 (.cons rfl ru) rz (.cons (.ref (m2.at_ hi)) rv) rz' q2
        · cases ek
      · cases ek
    · cases ek
/-- C(..) -/
theorem q_make (F : FactsF X.prog X.w X.K X.mg gf adr) (hT : AllOk X.prog X.w X.K X.mg X.base gf adr k T) (hr : Room (k + 1) X.A) (gd : X.A.guards = some []) (tk : Takes X W) (hg : Gl X x) (hdb : (x == ("__debug__" : Str)) = false) (hx : (gf.mks.lookup x).isSome = true)
    (ha : PA X es (rA X W dr)) (hkw : PK X kws (rA X W dk)) (hn : es = [] → dr = dNil) (hs : es.all (fun e => !isStar e) = true) (hw : kwAll kws = true) :
    PE X (.Call (.Name x p) es kws pos) (rE X W (argsE dr dk fun ds es' => makeF gf T x ds ((kwNames kws).zip es'))) := by
  refine ⟨fun pins s σ H Q I ⟨ι, ρ, M, rm, re, q⟩ => ?_⟩
  obtain ⟨key, hk⟩ := Option.isSome_iff_exists.mp hx
  obtain ⟨MK, hm⟩ := F.ini x key hk
  refine wpAny_Call_Name_kw (ld_glob I hg hm ?_ hdb)
  refine call_with (kept_of MK.kp) I ha hkw hn hs hw rm re _ Q q fun s2 H2 ι2 M2 us vs ds ws zs es' I2 m2 rm2 ru rz rv rz' q2 => ?_
  unfold makeF at q2
  rw [hk] at q2
  have I3 := Inv.made (C := He.ga X.K x) I2
  have f1 : H2 s2.heap.objs.size = none := I2.hok.fresh (Nat.le_refl _)
  have f2 : H2 (s2.heap.objs.size + 1) = none := I2.hok.fresh (Nat.le_succ _)
  obtain ⟨rmA, mA⟩ := rm2.upd_new (u := .own (s2.heap.objs.size + 1)) f1
  have f3 : upd H2 s2.heap.objs.size (.own (s2.heap.objs.size + 1)) (s2.heap.objs.size + 1) = none := by rw [upd_ne (Nat.succ_ne_self _)]; exact f2
  obtain ⟨rmB, mB, hiB⟩ := rmA.alloc (u := .ins (He.ga X.K x) s2.heap.objs.size []) (o := .ins x []) f3 ⟨_, [], upd_same, .nil⟩
  have mm := mA.trans mB
  have q3 := Post.bind (rel := Rep (pw X)) (Post.mono q2 mm)
  unfold callF at q3
  split at q3
  · rename_i i hi
    split at q3
    · rename_i full hf
      split at q3
      · rename_i hlen
        obtain ⟨fd, dvs, kws', FD, rd, rk, hp, _⟩ := F.fn key i hi
        obtain ⟨wv, e1, l1⟩ := bindG_par (all_rep (RepL.cons (Rep.ref hiB) (rv.mono mm))) (kall_zipR (ks := kwNames kws) (rz'.mono mm)) (all_rep (rd _ _)) (kall_rep (rk _ _)) hf
        obtain ⟨vals, r2, hb⟩ := bind_fun (vs := .ref (s2.heap.objs.size + 1) :: vs) (us := .ref (s2.heap.objs.size + 1) :: us) FD hp (.cons rfl ru) ((all_vals rz).zip (kwNames kws)) e1
        have rl := rep_all l1
        refine wpAny_call (make_map (f := adr key) I2.kIn MK.makes MK.init (beq_iff_eq.mp MK.fn) (codeAny_mono ((hT key i fd dvs kws' hi FD).run _ X.stack _ _ ⟨Value.ref (s2.heap.objs.size + 1) :: us, (kwNames kws).zip ws⟩ vals wv _ (WE W σ) (guards_make gd) (hr.make _ us _)
          (I3.env0.make _ us _) (hb _ I3.kIn) r2 ⟨_, _, full, rmB, rl, hlen, q3⟩) fun r s' hq' => ?_))
        cases r with
        | error e => exact passAt tk σ pins _ _ e s' I3 hq'
        | ok fl =>
          cases fl with
          | ret u =>
            obtain ⟨v, H', I4, rv', ι5, d5, M5, m5, rm5, rd5, q5⟩ := I3.after hq'
            cases rd5 with
            | non => exact ⟨rv', V.ref (s2.heap.objs.size + 1), H', I4, rfl, q5 _ _ _ .refl rm5 (.ref (m5.at_ hiB))⟩
            | _ => exact q5.elim
          | next => exact False.elim hq'
          | brk => exact False.elim hq'
          | cont => exact False.elim hq'
      · exact q3.elim
    · exact q3.elim
  · exact q3.elim
end
end Ev
set_option Elab.async false
set_option linter.all false
set_option maxRecDepth 100000
set_option maxHeartbeats 4000000
/-! Dict displays; a choice by the state; side conditions of the text. -/
namespace Ev
open PySem PySem.Spec PyProof.Rows L2

section
variable {X : Cx} {W : WX} {g : Pg} {a b c e o : Expr} {es rest : List Expr} {da db dc dd d1 d2 : ED} {dr : AD} {pos apos pos' p : Pos} {pins : List (Addr × Obj)} {σ : L2.St} {H : Hp} {s : Shared} {ι : List Addr} {ρ : Env1} {M : Store} {st : Stmt} {sts body : List Stmt} {ds dt : SD}
theorem q_no : PE X e (rE X W fun _ _ => .no) := ⟨fun _ _ _ _ _ _ ⟨_, _, _, _, _, q⟩ => q.elim⟩
theorem qt_no : PT X e (rT X W fun _ _ => .no) := ⟨fun _ _ _ _ _ _ ⟨_, _, _, _, _, q⟩ => q.elim⟩
theorem qs_no : PS X st (rS X W fun _ _ => .no) := ⟨fun _ _ _ _ _ _ ⟨_, _, _, _, _, q⟩ => q.elim⟩
theorem q_sel (c : Env1 → Store → Bool) (h1 : PE X e (rE X W d1)) (h2 : PE X e (rE X W d2)) : PE X e (rE X W fun ρ M => if c ρ M = true then d1 ρ M else d2 ρ M) := ⟨fun pins s σ H Q I ⟨ι, ρ, M, rm, re, q⟩ => by
  dsimp only at q
  by_cases h : c ρ M = true
  · rw [if_pos h] at q
    exact h1.run pins s σ H Q I ⟨ι, ρ, M, rm, re, q⟩
  · rw [if_neg h] at q
    exact h2.run pins s σ H Q I ⟨ι, ρ, M, rm, re, q⟩⟩
/-! ### dicts -/
def newKD [DecidableEq Str] [DecidableEq Key] [DecidableEq String] [(α : Type) → GetElem? (List α) Nat α fun l i => i < l.length] [(α : Type) → Append (List α)] [(i j : Int) → Decidable (i < j)] [(i j : Int) → Decidable (i ≤ j)] : ED := fun _ M => .ok (.ref M.length) (M ++ [.dK []])
def newTD [DecidableEq Str] [DecidableEq Key] [DecidableEq String] [(α : Type) → GetElem? (List α) Nat α fun l i => i < l.length] [(α : Type) → Append (List α)] [(i j : Int) → Decidable (i < j)] [(i j : Int) → Decidable (i ≤ j)] : ED := fun _ M => .ok (.ref M.length) (M ++ [.dT []])
theorem q_newK : PE X (.Dict [] [] pos) (rE X W newKD) := pe_dnewK.imp fun σ H Q ⟨ι, ρ, M, rm, re, q⟩ p hp => by
  obtain ⟨rm2, m2, hi⟩ := rm.alloc (u := .dK []) (o := .dK []) hp ⟨[], upd_same, .nil⟩
  exact q _ _ _ m2 rm2 (.ref hi)
theorem q_newT : PE X (.Dict [] [] pos) (rE X W newTD) := pe_dnewT.imp fun σ H Q ⟨ι, ρ, M, rm, re, q⟩ p hp => by
  obtain ⟨rm2, m2, hi⟩ := rm.alloc (u := .dT []) (o := .dT []) hp ⟨[], upd_same, .nil⟩
  exact q _ _ _ m2 rm2 (.ref hi)
def pairsD [DecidableEq Str] [DecidableEq Key] [DecidableEq String] [(α : Type) → GetElem? (List α) Nat α fun l i => i < l.length] [(α : Type) → Append (List α)] [(i j : Int) → Decidable (i < j)] [(i j : Int) → Decidable (i ≤ j)] : List (ED × ED) → Env1 → Store → R (List (D × D))
  | [], _, M => .ok [] M
  | (dk, dv) :: r, ρ, M => (dk ρ M).bind fun x M1 => (dv ρ M1).bind fun y M2 => (pairsD r ρ M2).bind fun ps M3 => .ok ((x, y) :: ps) M3
inductive RepP (p : Pw) (ι : List Addr) (H : Hp) : List (V × V) → List (D × D) → Prop
  | nil : RepP p ι H [] []
  | cons {k v : V} {x y : D} {vs : List (V × V)} {ds : List (D × D)} : Rep p ι H k x → Rep p ι H v y → RepP p ι H vs ds → RepP p ι H ((k, v) :: vs) ((x, y) :: ds)
def keysP [DecidableEq Str] [DecidableEq Key] [DecidableEq String] [(α : Type) → GetElem? (List α) Nat α fun l i => i < l.length] [(α : Type) → Append (List α)] [(i j : Int) → Decidable (i < j)] [(i j : Int) → Decidable (i ≤ j)] : List (D × D) → Option (List (Key × D))
  | [] => some []
  | (x, y) :: r => (match keyOf x, keysP r with
    | some k, some kvs => some ((k, y) :: kvs)
    | _, _ => none)
theorem keysP_rep {p : Pw} : ∀ {vs : List (V × V)} {ds : List (D × D)} {kvs : List (Key × D)}, RepP p ι H vs ds → keysP ds = some kvs → ∃ kv : List (Key × V), vs = kv.map (fun kv => (kV kv.1, kv.2)) ∧ RepK p ι H kv kvs
  | _, _, _, .nil, e => by cases e; exact ⟨[], rfl, .nil⟩
  | _, (x, y) :: ds, _, .cons (k := k) (v := v) rk rv l, e => by
    unfold keysP at e
    cases e1 : keyOf x with
    | none => rw [e1] at e; cases e
    | some k' =>
      cases e2 : keysP ds with
      | none => rw [e1, e2] at e; cases e
      | some kvs' =>
        rw [e1, e2] at e
        cases e
        obtain ⟨kv, h1, h2⟩ := keysP_rep l e2
        exact ⟨(k', v) :: kv, by rw [List.map_cons, h1, keyOf_rep rk e1], .cons rv h2⟩
def mergeD [DecidableEq Str] [DecidableEq Key] [DecidableEq String] [(α : Type) → GetElem? (List α) Nat α fun l i => i < l.length] [(α : Type) → Append (List α)] [(i j : Int) → Decidable (i < j)] [(i j : Int) → Decidable (i ≤ j)] (kvs more : List (Key × D)) : List (Key × D) := more.foldl (fun acc kv => putD acc kv.1 kv.2) kvs
theorem RepK.merge {p : Pw} : ∀ {more : List (Key × V)} {md : List (Key × D)} {kvs : List (Key × V)} {kd : List (Key × D)}, RepK p ι H more md → RepK p ι H kvs kd → RepK p ι H (mergeK kvs more) (mergeD kd md)
  | _, _, _, _, .nil, s => s
  | (k, v) :: vs, (_, d) :: ds, kvs, kd, .cons r l, s => by
    have h := RepK.merge l (RepK.put (k := k) s r)
    exact h
def dispD [DecidableEq Str] [DecidableEq Key] [DecidableEq String] [(α : Type) → GetElem? (List α) Nat α fun l i => i < l.length] [(α : Type) → Append (List α)] [(i j : Int) → Decidable (i < j)] [(i j : Int) → Decidable (i ≤ j)] (prs : List (ED × ED)) : ED := fun ρ M => (pairsD prs ρ (M ++ [.dK []])).bind fun ps M1 => match M1[M.length]?, keysP ps with
  | some (.dK []), some kvs => if kvs.length ≤ 15 then .ok (.ref M.length) (M1.set M.length (.dK (mergeD [] kvs))) else .no
  | _, _ => .no
inductive PDs (X : Cx) (W : WX) : List (Option Expr) → List Expr → List (ED × ED) → Prop where
  | nil : PDs X W [] [] []
  | cons {k v : Expr} {dk dv : ED} {ks : List (Option Expr)} {vs : List Expr} {prs : List (ED × ED)} (hk : PE X k (rE X W dk)) (hv : PE X v (rE X W dv)) (r : PDs X W ks vs prs) : PDs X W (some k :: ks) (v :: vs) ((dk, dv) :: prs)
theorem PDs.pps : ∀ {ks : List (Option Expr)} {vs : List Expr} {prs : List (ED × ED)}, PDs X W ks vs prs → PPs X pos ks vs (prs.map fun p => (rE X W p.1, rE X W p.2))
  | _, _, _, .nil => pps_nil
  | _, _, _, .cons hk hv r => pps_cons hk hv r.pps
theorem PDs.all : ∀ {ks : List (Option Expr)} {vs : List Expr} {prs : List (ED × ED)}, PDs X W ks vs prs → ks.all (·.isSome) = true ∧ ks.length = vs.length
  | _, _, _, .nil => ⟨rfl, rfl⟩
  | _, _, _, .cons _ _ r => ⟨by rw [List.all_cons, r.all.1]; rfl, congrArg Nat.succ r.all.2⟩
theorem pairs_t {R : List (V × V) → Hp → Prop} : ∀ {prs : List (ED × ED)} {ι : List Addr} {ρ : Env1} {M : Store} {H : Hp}, RepM (pw X) ι H M → RepE (pw X) ι H σ ρ → Post (pw X) ι H (RepP (pw X)) R (WE W σ) (pairsD prs ρ M) →
    tPairs (prs.map fun p => (rE X W p.1, rE X W p.2)) σ H R
  | [], ι, ρ, M, H, rm, re, q => q ι H [] .refl rm .nil
  | (dk, dv) :: r, ι, ρ, M, H, rm, re, q => by
    refine ⟨ι, ρ, M, rm, re, (Post.bind q).imp fun k H1 ⟨ι1, x, M1, m1, rm1, rk, q1⟩ => ?_⟩
    refine ⟨ι1, ρ, M1, rm1, re.mono m1, (Post.bind q1).imp fun v H2 ⟨ι2, y, M2, m2, rm2, rv, q2⟩ => ?_⟩
    refine pairs_t rm2 (re.mono (m1.trans m2)) ((Post.bind q2).imp fun ps H3 ⟨ι3, ds, M3, m3, rm3, rp, q3⟩ => ?_)
    exact q3 ι3 H3 _ .refl rm3 (.cons (rk.mono (m2.trans m3)) (rv.mono m3) rp)
theorem q_disp {keys : List (Option Expr)} {values : List Expr} {prs : List (ED × ED)} (h : PDs X W keys values prs) (h0 : keys ≠ []) (h15 : keys.length ≤ 15) : PE X (.Dict keys values pos) (rE X W (dispD prs)) :=
  (pe_disp h.pps h.all.1 h.all.2 h0 h15).imp fun σ H Q ⟨ι, ρ, M, rm, re, q⟩ p hp => by
    obtain ⟨rm2, m2, hi⟩ := rm.alloc (u := .dK []) (o := .dK []) hp ⟨[], upd_same, .nil⟩
    refine pairs_t rm2 (re.mono m2) ((Post.bind (Post.mono q m2)).imp fun ps H3 ⟨ι3, ds, M3, m3, rm3, rp, q3⟩ => ?_)
    split at q3
    · rename_i kvs e1 e2
      split at q3
      · rename_i hl
        obtain ⟨kv, e3, rk⟩ := keysP_rep rp e2
        have hi3 := m3.at_ hi
        obtain ⟨vs0, ha, l0⟩ := rm3.at_ _ p _ hi3 e1
        cases l0
        refine ⟨ha, kv, e3, by rw [rk.length]; exact hl, ?_⟩
        obtain ⟨rm4, m4⟩ := set_rep (u := .dK (mergeK [] kv)) (o := .dK (mergeD [] kvs)) rm3 hi3 ha (fun _ z => nomatch z) fun m => ⟨_, upd_same, (RepK.merge rk .nil).mono m⟩
        exact q3 _ _ _ m4 rm4 (.ref (m4.at_ hi3))
      · exact q3.elim
    · exact q3.elim

/-! ### try whose body raises nothing -/
def noExS [DecidableEq Str] [DecidableEq Key] [DecidableEq String] [(α : Type) → GetElem? (List α) Nat α fun l i => i < l.length] [(α : Type) → Append (List α)] [(i j : Int) → Decidable (i < j)] [(i j : Int) → Decidable (i ≤ j)] (ds : SD) : SD := fun ρ M => match ds ρ M with
  | .ex _ _ _ _ => .no
  | r => r
theorem qs_try {h₀ : ExceptHandler} {hs : List ExceptHandler} (hb : PSs X.nox body (rS X.nox Wf ds)) : PS X (.Try body (h₀ :: hs) [] [] pos) (rS X W (noExS ds)) := (ps_try_thru0 hb).imp fun E σ H ⟨ι, ρ, M, rm, re, q⟩ => by
  refine ⟨ι, ρ, M, rm, re, ?_⟩
  unfold noExS at q
  cases es : ds ρ M with
  | ex C fs ρ1 M1 => rw [es] at q; exact q.elim
  | nx _ _ => rw [es] at q; exact q
  | rt _ _ => rw [es] at q; exact q
  | bk _ _ => rw [es] at q; exact q
  | ct _ _ => rw [es] at q; exact q
  | no => rw [es] at q; exact q

/-! ### the text's side conditions -/
def isSlice [DecidableEq Str] [DecidableEq Key] [DecidableEq String] [(α : Type) → GetElem? (List α) Nat α fun l i => i < l.length] [(α : Type) → Append (List α)] [(i j : Int) → Decidable (i < j)] [(i j : Int) → Decidable (i ≤ j)] : Expr → Bool
  | .Slice _ _ _ _ => true
  | _ => false
theorem plainIx (h : isSlice b = false) : PlainIx b := fun o i => by
  cases b <;> first | rfl | cases h
def isComp [DecidableEq Str] [DecidableEq Key] [DecidableEq String] [(α : Type) → GetElem? (List α) Nat α fun l i => i < l.length] [(α : Type) → Append (List α)] [(i j : Int) → Decidable (i < j)] [(i j : Int) → Decidable (i ≤ j)] : Expr → Bool
  | .ListComp _ _ _ _ => true
  | .SetComp _ _ _ _ => true
  | .DictComp _ _ _ _ _ => true
  | _ => false
theorem swaps_none {tg : Option Expr} {line : Nat} {env : Env} (h : isComp e = false) : swapsWith e tg line env = pure false := by
  cases e <;> first | rfl | cases h
theorem swaps_other {tg : Expr} {line : Nat} {env : Env} (h : (match tg with | .Name _ _ => true | _ => false) = false) : swapsWith e (some tg) line env = pure false := by
  cases e <;> cases tg <;> first | rfl | cases h
theorem sole {tg : Expr} {line : Nat} {env : Env} (h : swapsWith e (some tg) line env = pure false) : swapsWithSole [tg] e line env = pure false := h
def isTupE [DecidableEq Str] [DecidableEq Key] [DecidableEq String] [(α : Type) → GetElem? (List α) Nat α fun l i => i < l.length] [(α : Type) → Append (List α)] [(i j : Int) → Decidable (i < j)] [(i j : Int) → Decidable (i ≤ j)] : Expr → Bool
  | .Tuple _ _ _ => true
  | _ => false
def isTL [DecidableEq Str] [DecidableEq Key] [DecidableEq String] [(α : Type) → GetElem? (List α) Nat α fun l i => i < l.length] [(α : Type) → Append (List α)] [(i j : Int) → Decidable (i < j)] [(i j : Int) → Decidable (i ≤ j)] : Expr → Bool
  | .Tuple _ _ _ => true
  | .List _ _ => true
  | _ => false
theorem stores_none {tg : Expr} {env : Env} (h : isTL tg = false ∨ isTupE e = false) : swappedStores [tg] e env = pure none := by
  rcases h with h | h
  · cases tg <;> first | rfl | cases h
  · cases e <;> first | (cases tg <;> rfl) | cases h
theorem assignEach_one {tg : Expr} {env : Env} (h : isStar tg = false) : (assignEach [tg] env).map (·.2) = [assign tg env] := by
  cases tg <;> first | rfl | cases h
theorem assignEach_cons {tg : Expr} {env : Env} (h : isStar tg = false) : assignEach (tg :: es) env = (false, assign tg env) :: assignEach es env := by
  cases tg <;> first | rfl | cases h
theorem assignEach_all {env : Env} : ∀ {es : List Expr}, es.all (fun e => !isStar e) = true → (assignEach es env).length = es.length ∧ (assignEach es env).findIdx? (·.1) = none
  | [], _ => ⟨rfl, rfl⟩
  | e :: es, h => by
    rw [List.all_cons, Bool.and_eq_true] at h
    obtain ⟨h1, h2⟩ := assignEach_all (env := env) h.2
    rw [assignEach_cons (by simpa using h.1)]
    refine ⟨congrArg Nat.succ h1, ?_⟩
    rw [List.findIdx?_cons]
    simp [h2]
def isCall0 [DecidableEq Str] [DecidableEq Key] [DecidableEq String] [(α : Type) → GetElem? (List α) Nat α fun l i => i < l.length] [(α : Type) → Append (List α)] [(i j : Int) → Decidable (i < j)] [(i j : Int) → Decidable (i ≤ j)] : Expr → Bool
  | .Call (.Name _ _) [] [] _ => true
  | _ => false
theorem attrBase {m : Str} {env : Env} (h : isCall0 o = false) : attributeBase o m env (eval o env) = eval o env := by
  unfold attributeBase
  split
  · cases h
  · rfl
theorem foldSet {env : Env} (h : (match e with | .Set _ _ _ => true | _ => false) = false) : ∀ x, foldedSetIterable e env x = pure x := fun x => by
  cases e <;> first | rfl | cases h
def isSet [DecidableEq Str] [DecidableEq Key] [DecidableEq String] [(α : Type) → GetElem? (List α) Nat α fun l i => i < l.length] [(α : Type) → Append (List α)] [(i j : Int) → Decidable (i < j)] [(i j : Int) → Decidable (i ≤ j)] : Expr → Bool
  | .Set _ _ _ => true
  | _ => false
theorem noBehind {op : CmpOp} (h : isSet b = false) : behindInMarks op b = false := by
  cases b <;> first | rfl | cases h
theorem meth_form {m : Str} {env : Env} {kws : List Keyword} (hb : isCall0 o = false) (hs : es.all (fun e => !isStar e) = true) (hw : kwAll kws = true) (hn : es.length + kws.length + (if kws.isEmpty then 0 else 1) < 30) (hl : (apos.endLine == pos.line) = true) :
    eval (.Call (.Attribute o m apos) es kws pos) env = (do
      let ov ← eval o env
      standAt apos.atName
      let (f, first) ← holding [ov] (getMethod ov m (do return (← importBound o env).getD true))
      callWith pos f first (backTo pos (starEach es env)) (backToKw pos (keywordEach kws env))) := by
  have e1 : (backTo pos (starEach es env)).all (fun x => !x.1) = true := by
    have := star_any (env := env) (pos := pos) hs
    rw [List.all_eq_not_any_not]
    simpa using this
  have e3 : (backToKw pos (keywordEach kws env)).isEmpty = kws.isEmpty := by
    cases kws with
    | nil => rfl
    | cons k ks => cases k; rfl
  have e2 : methodCallForm (es.length + kws.length) (backTo pos (starEach es env)) (backToKw pos (keywordEach kws env)) = true := by
    unfold methodCallForm
    rw [e1, kw_hall hw, e3]
    simp only [Bool.true_and, decide_eq_true_eq]
    exact hn
  rw [arm_eval_Call, attrBase hb]
  unfold methodCall calleeOf methodCallPos
  rw [e2, hl]
  rfl
end
end Ev
set_option Elab.async false
set_option linter.all false
set_option maxRecDepth 100000
set_option maxHeartbeats 4000000
/-! a, *b = .. -/
namespace Ev
open PySem PySem.Spec PyProof.Rows L2
section
variable {prog : Program} {w : World} {A : Around} {E : Value → Shared → Prop} {s : Shared}
/-- behind the first: the rest of the iterator, in a new list -/
theorem star_rest {it t : Addr} {T : String} {items : Array Value} {St : Nat → Heap → Prop} {Q : List Value → Shared → Prop} {s : Shared} (hT : T = "str_ascii_iterator" ∨ T = "str_iterator" ∨ T = "list_iterator" ∨ T = "tuple_iterator")
    (Wk : Walks prog w A.in1 it [it, t] [it] items.size (fun i v => items[i]? = some v) St) (ty : ∀ i (u : Shared), St i u.heap → u.TypeIs (.ref it) T) (st : St 1 s.heap) (h0 : 1 ≤ items.size) (hz : items.size ≤ sizeLine) (l1 : it < s.heap.objs.size) (l2 : t < s.heap.objs.size)
    (q : ∀ (h' : Heap) (tk : Nat), (∀ b o, b ≠ it → s.heap.get? b = some o → h'.get? b = some o) → Q [items[0], .ref h'.objs.size] { s with heap := h'.push { cls := .type "list", data := .seq (items.toList.drop 1).toArray }, toks := tk }) :
    wpAny (model prog w) A (do
      let rest ← holding (items.toList.take 1) (collect (.ref it))
      if rest.length < 2 - 1 - 1 then
        rule "unpack.star.too-few"
        raiseError "ValueError" s!"not enough values to unpack (expected at least {2 - 1}, got {1 + rest.length})"
      return items.toList.take 1 ++ [← newList (rest.take (rest.length - (2 - 1 - 1)))] ++ rest.drop (rest.length - (2 - 1 - 1))) Q E s := by
  refine wpAny_bind (wpAny_holding (PySem.W.kun_collect hT Wk ty h0 st l1 l2 (fun h' tk k => ?_) hz))
  have e0 : items.toList.take 1 = [items[0]] := by
    rw [List.take_one, List.head?_eq_getElem?, Array.getElem?_toList, Array.getElem?_eq_getElem (by omega)]
    rfl
  have e1 : (items.toList.drop 1).take ((items.toList.drop 1).length - (2 - 1 - 1)) = items.toList.drop 1 := List.take_of_length_le (Nat.le_of_eq rfl)
  have e2 : (items.toList.drop 1).drop ((items.toList.drop 1).length - (2 - 1 - 1)) = [] := List.drop_of_length_le (Nat.le_of_eq rfl)
  rw [if_neg (by simp)]
  refine wpAny_bind ?_
  rw [e1, e2, e0]
  refine wpAny_newObj_type (wpAny_pure ?_) ?_
  · exact q h' tk k
  · show (items.toList.drop 1).toArray.size ≤ sizeLine
    rw [List.size_toArray, List.length_drop, Array.length_toList]
    omega
theorem star_tuple {t : Addr} {items : Array Value} {Q : List Value → Shared → Prop} (hh : A.handled = none) (ht : IsTup s.heap t items) (h0 : 1 ≤ items.size) (hz : items.size ≤ sizeLine)
    (q : ∀ (h' : Heap) (tk : Nat), (∀ b o, s.heap.get? b = some o → h'.get? b = some o) → Q [items[0], .ref h'.objs.size] { s with heap := h'.push { cls := .type "list", data := .seq (items.toList.drop 1).toArray }, toks := tk }) :
    wpAny (model prog w) A (unpackItems (.ref t) 2 (some 1)) Q E s := by
  have ne : t ≠ s.heap.objs.size := by obtain ⟨o, ho, _⟩ := ht; exact Nat.ne_of_lt (Heap.lt_size ho)
  unfold unpackItems notIterableAtAll
  refine wpAny_bind (wpAny_bind (wpAny_specialOf ht.typeIs PyProof.Rows.slot_tuple_iter.lookup (wpAny_pure ?_)))
  simp only [Bool.false_eq_true, if_false]
  refine wpAny_bind (wpAny_holding (iter_tuple ht (wpAny_bind (wpAny_holding (draw_tuple ne 1 0 _ _ ⟨_, Heap.get?_push_size _ rfl, rfl, rfl⟩ (ht.push _) (by omega) fun h₁ hi hs => ?_)))))
  have ht1 : IsTup h₁ t items := (ht.push _).extBut hs.extBut ne
  obtain ⟨oi, hoi, _⟩ := id hi
  obtain ⟨ol, hol, _⟩ := id ht1
  rw [List.drop_zero, if_neg (by rw [List.length_take, Array.length_toList]; omega)]
  refine star_rest (s := { s with heap := h₁ }) (.inr (.inr (.inr rfl))) (Walks.tuple (A := A.in1) hh s.heap.objs.size t ne items) (fun j u st => st.1.typeIs) ⟨hi, ht1⟩ h0 hz (Heap.lt_size hoi) (Heap.lt_size hol) fun h' tk k => ?_
  have kk : ∀ b o, s.heap.get? b = some o → h'.get? b = some o := fun b o e => k b o (Nat.ne_of_lt (Heap.lt_size e)) (hs.extBut b o (Nat.ne_of_lt (Heap.lt_size e)) (Heap.get?_push_of_some _ e))
  exact q h' tk kk
theorem star_list {t : Addr} {items : Array Value} {Q : List Value → Shared → Prop} (hh : A.handled = none) (ht : s.heap.IsList t items) (h0 : 1 ≤ items.size) (hz : items.size ≤ sizeLine)
    (q : ∀ (h' : Heap) (tk : Nat), (∀ b o, s.heap.get? b = some o → h'.get? b = some o) → Q [items[0], .ref h'.objs.size] { s with heap := h'.push { cls := .type "list", data := .seq (items.toList.drop 1).toArray }, toks := tk }) :
    wpAny (model prog w) A (unpackItems (.ref t) 2 (some 1)) Q E s := by
  have ne : t ≠ s.heap.objs.size := by obtain ⟨o, ho, _⟩ := ht; exact Nat.ne_of_lt (Heap.lt_size ho)
  unfold unpackItems notIterableAtAll
  refine wpAny_bind (wpAny_bind (wpAny_specialOf ht.typeIs slot_list_iter.lookup (wpAny_pure ?_)))
  simp only [Bool.false_eq_true, if_false]
  refine wpAny_bind (wpAny_holding (wpAny_pyIter_list ht (wpAny_bind (wpAny_holding (PySem.W.kun_draw ne 1 0 _ _ ⟨_, Heap.get?_push_size _ rfl, rfl, rfl⟩ (ht.push _) (by omega) fun h₁ hi hs => ?_)))))
  have ht1 : h₁.IsList t items := (ht.push _).extBut hs.extBut ne
  obtain ⟨oi, hoi, _⟩ := id hi
  obtain ⟨ol, hol, _⟩ := id ht1
  rw [List.drop_zero, if_neg (by rw [List.length_take, Array.length_toList]; omega)]
  refine star_rest (s := { s with heap := h₁ }) (.inr (.inr (.inl rfl))) (Walks.list (A := A.in1) hh s.heap.objs.size t ne items) (fun j u st => st.1.typeIs) ⟨hi, ht1⟩ h0 hz (Heap.lt_size hoi) (Heap.lt_size hol) fun h' tk k => ?_
  have kk : ∀ b o, s.heap.get? b = some o → h'.get? b = some o := fun b o e => k b o (Nat.ne_of_lt (Heap.lt_size e)) (hs.extBut b o (Nat.ne_of_lt (Heap.lt_size e)) (Heap.get?_push_of_some _ e))
  exact q h' tk kk
end
section
variable {X : Cx} {t1 t2 : Expr} {t : TGs} {p pos : Pos} {k : Nat}
/-- a, *b = a tuple, a list with a first -/
def gStar [DecidableEq Str] [DecidableEq Key] [DecidableEq String] [(α : Type) → GetElem? (List α) Nat α fun l i => i < l.length] [(α : Type) → Append (List α)] [(i j : Int) → Decidable (i < j)] [(i j : Int) → Decidable (i ≤ j)] (K : PySem.W.Frag) (t : TGs) : TG := fun v σ H Q => ∃ a x xs, v = .ref a ∧ (SqT K H a (x :: xs) ∨ SqL K H a (x :: xs)) ∧ ∀ b, H b = none → t [x, .ref b] σ (upd H b (.lst xs)) Q
theorem pg_star (hc : X.calm = true) (h : PGs X [t1, t2] t) (h1 : isStar t1 = false) (h2 : isStar t2 = false) : PG X (.Tuple [t1, .Starred t2 p] k pos) (gStar X.K t) := by
  refine ⟨fun pins s σ H v u Q I r ⟨a, x, xs, ev, hq, q⟩ => ?_⟩
  subst ev
  obtain rfl : u = Value.ref a := r
  have he : assignEach [t1, .Starred t2 p] X.env = [(false, assign t1 X.env), (true, assign t2 X.env)] := by rw [assignEach_cons h1]; rfl
  have he2 : (assignEach [t1, t2] X.env).map (·.2) = [assign t1 X.env, assign t2 X.env] := by rw [assignEach_cons h1, assignEach_cons h2]; rfl
  rw [PyProof.Rows.assign_Tuple]
  refine wpAny_bind (wpAny_standAt ?_)
  unfold unpack
  rw [he]
  show wpAny _ _ (holding [Value.ref a] (unpackItems (.ref a) 2 (some 1)) >>= fun items => assignInOrder [assign t1 X.env, assign t2 X.env] items) _ _ _
  refine wpAny_bind (wpAny_holding ?_)
  have fin : ∀ (its : List Value) (z : its.length ≤ sizeLine) (r : Vals (x :: xs) its) (h' : Heap) (tk : Nat), (∀ b o, s.heap.get? b = some o → h'.get? b = some o) → ∀ y, its.toArray[0]? = some y →
      wpAny (model X.prog X.w) X.A (assignInOrder [assign t1 X.env, assign t2 X.env] [y, .ref h'.objs.size]) (fun _ s' => ∃ σ' H', Inv X pins σ' H' s' ∧ Q σ' H') X.xe { s with heap := h'.push { cls := .type "list", data := .seq (its.toArray.toList.drop 1).toArray }, toks := tk } := fun its z r h' tk kk y hy => by
    cases r with
    | @cons _ u0 _ us r0 rr =>
    obtain rfl : y = u0 := by simpa using hy.symm
    have I1 : Inv X pins σ H { s with heap := h', toks := tk } := I.kept kk
    have fr := I1.hok.fresh (Nat.le_refl h'.objs.size)
    have I2 : Inv X pins σ (upd H h'.objs.size (.lst xs)) { s with heap := h'.push { cls := .type "list", data := .seq us.toArray }, toks := tk } :=
      I1.laid (t' := tk) (fun b u e => Heap.get?_push_of_some _ e) (Nat.le_refl _) ⟨by rw [rr.length]; simp at z; omega, us, 0, rr, Heap.get?_push_size _ rfl⟩
    have hrun := h.run pins _ σ _ [x, .ref h'.objs.size] [y, .ref h'.objs.size] Q I2 (.cons r0 (.cons rfl .nil)) (q _ fr)
    rw [he2] at hrun
    exact hrun
  rcases hq with hq | hq
  · obtain ⟨its, rv, ht, hz⟩ := I.tuple hq
    have hl := rv.length
    have hne : 1 ≤ its.toArray.size := by rw [List.size_toArray, ← hl]; simp
    refine star_tuple (I.ok.hd hc) ht hne (by rw [List.size_toArray, ← hl]; exact hz) fun h' tk kk => fin its (by rw [← hl]; exact hz) rv h' tk kk _ (Array.getElem?_eq_getElem (by omega))
  · obtain ⟨its, rv, pl, hz⟩ := I.list hq
    have hl := rv.length
    have hne : 1 ≤ its.toArray.size := by rw [List.size_toArray, ← hl]; simp
    refine star_list (I.ok.hd hc) pl.isList hne (by rw [List.size_toArray, ← hl]; exact hz) fun h' tk kk => fin its (by rw [← hl]; exact hz) rv h' tk kk _ (Array.getElem?_eq_getElem (by omega))
def gStar1 [DecidableEq Str] [DecidableEq Key] [DecidableEq String] [(α : Type) → GetElem? (List α) Nat α fun l i => i < l.length] [(α : Type) → Append (List α)] [(i j : Int) → Decidable (i < j)] [(i j : Int) → Decidable (i ≤ j)] (r : GDs) : GD := fun d ρ M => match itemsOf d M with
  | some (x :: xs) => if xs.length ≤ sizeLine then r [x, .ref M.length] ρ (M ++ [.lst xs]) else none
  | _ => none
theorem items_rep {ι : List Addr} {H : Hp} {M : Store} {v : V} {d : D} {ds : List D} (rm : RepM (pw X) ι H M) (r : Rep (pw X) ι H v d) (e : itemsOf d M = some ds) : ∃ a vs, v = .ref a ∧ (SqT X.K H a vs ∨ SqL X.K H a vs) ∧ RepL (pw X) ι H vs ds := by
  cases r with
  | tup ha l => cases e; exact ⟨_, _, rfl, .inl (.inl (.inl ha)), l⟩
  | kt ha l => cases e; exact ⟨_, _, rfl, .inl ha.sq, l⟩
  | ref hi =>
    obtain ⟨a, vs, e1, hq, l⟩ := lstRd_at rm (.ref hi) e
    exact ⟨a, vs, e1, .inr (hq _), l⟩
  | _ => cases e
theorem qg_star {gr : GDs} {ks : List Nat} (hc : X.calm = true) (h : PGs X [t1, t2] (rGs X ks gr)) (h1 : isStar t1 = false) (h2 : isStar t2 = false) : PG X (.Tuple [t1, .Starred t2 p] k pos) (rG X ks (gStar1 gr)) :=
  (pg_star hc h h1 h2).imp fun v σ H Q ⟨ι, ρ, M, d, rm, re, rv, q⟩ => by
    unfold gStar1 at q
    split at q
    · rename_i x xs e
      split at q
      · obtain ⟨a, vs, e1, hq, l⟩ := items_rep rm rv e
        cases l with
        | @cons y ys _ _ rx l =>
        refine ⟨a, y, ys, e1, hq, fun b hb => ?_⟩
        have m0 : Mono ι H (ι ++ [b]) (upd H b (.lst ys)) := .new hb
        obtain ⟨rm2, m2, hi⟩ := rm.alloc (u := .lst ys) (o := .lst xs) hb ⟨ys, upd_same, l.mono m0⟩
        exact ⟨_, ρ, _, _, rm2, re.mono m2, .cons (rx.mono m2) (.cons (.ref hi) .nil), PostG.mono q m2⟩
      · exact q.elim
    · exact q.elim
end
end Ev
set_option Elab.async false
set_option linter.all false
set_option maxRecDepth 100000
set_option maxHeartbeats 4000000
/-! Further calls: a class without __init__, through a value, len of an instance; three names at once. -/
namespace Ev
open PySem PySem.Spec PyProof.Rows L2
section
variable {X : Cx} {W : WX} {gf : Gf} {adr : Str → Addr} {T : Tb} {k : Nat} {a b c e o f : Expr} {es rest : List Expr} {da db dc dd df : ED} {dr dk : AD} {pos apos pos' p : Pos} {pins : List (Addr × Obj)} {σ : L2.St} {H : Hp} {s : Shared} {ι : List Addr} {ρ : Env1} {M : Store} {x y z m : Str} {kws : List Keyword}
/-! ### a, b, c = .. -/
def par3S [DecidableEq Str] [DecidableEq Key] [DecidableEq String] [(α : Type) → GetElem? (List α) Nat α fun l i => i < l.length] [(α : Type) → Append (List α)] [(i j : Int) → Decidable (i < j)] [(i j : Int) → Decidable (i ≤ j)] (i j l : Nat) (dr : AD) : SD := fun ρ M => (dr ρ M).toS ρ fun ds M1 => match ds with
  | [x, y, z] => .nx (((ρ.set i (some x)).set j (some y)).set l (some z)) M1
  | _ => .no
theorem qs_par3 {i j l : Nat} {px py pz pt : Pos} {kt k2 pt2} (hc : X.calm = true) (hN : X.N.Nodup) (hi : X.N[i]? = some x) (hj : X.N[j]? = some y) (hl : X.N[l]? = some z) (hij : i ≠ j) (hil : i ≠ l) (hjl : j ≠ l)
    (hx : X.env.scope.names.lookup x = some .local) (hy : X.env.scope.names.lookup y = some .local) (hz : X.env.scope.names.lookup z = some .local) (ha : PA X [a, b, c] (rA X W dr))
    (hw : swappedStores [.Tuple [.Name x px, .Name y py, .Name z pz] kt pt] (.Tuple [a, b, c] k2 pt2) X.env = pure (some [x, y, z]))
    (hs : swapsWithSole [.Tuple [.Name x px, .Name y py, .Name z pz] kt pt] (.Tuple [a, b, c] k2 pt2) pos.line X.env = pure false) :
    PS X (.Assign [.Tuple [.Name x px, .Name y py, .Name z pz] kt pt] (.Tuple [a, b, c] k2 pt2) pos) (rS X W (par3S i j l dr)) := (ps_par3 hc hN hi hj hl hij hil hjl hx hy hz ha hw hs).imp fun E σ H ⟨ι, ρ, M, rm, re, q⟩ =>
  ⟨ι, ρ, M, rm, re, (PostS.part q re).imp fun vs H1 ⟨ι1, ds, M1, m1, rm1, rv, q1⟩ => by
    cases rv with
    | nil => exact q1.elim
    | cons r l =>
      cases l with
      | nil => exact q1.elim
      | cons r' l =>
        cases l with
        | nil => exact q1.elim
        | cons r2 l =>
          cases l with
          | nil => exact ⟨_, _, _, rfl, q1 ι1 H1 _ .refl rm1 ((((re.mono m1).set r).set r').set r2)⟩
          | cons _ _ => exact q1.elim⟩
/-! ### a class without __init__ -/
def make0D [DecidableEq Str] [DecidableEq Key] [DecidableEq String] [(α : Type) → GetElem? (List α) Nat α fun l i => i < l.length] [(α : Type) → Append (List α)] [(i j : Int) → Decidable (i < j)] [(i j : Int) → Decidable (i ≤ j)] (c : Str) : ED := fun _ M => .ok (.ref M.length) (M ++ [.ins c []])
theorem q_make0 (F : FactsF X.prog X.w X.K X.mg gf adr) (hg : Gl X x) (hdb : (x == ("__debug__" : Str)) = false) (hx : gf.mk0.contains x = true) : PE X (.Call (.Name x p) [] [] pos) (rE X W (make0D x)) := by
  refine ⟨fun pins s σ H Q I ⟨ι, ρ, M, rm, re, q⟩ => ?_⟩
  obtain ⟨h1, h2, h3, h4, hm⟩ := F.ini0 x hx
  refine wpAny_Call_Name_kw (ld_glob I hg hm ?_ hdb)
  refine PySem.W.callWith_K0 (first := []) I.kIn h4 (wpAny_call (make_map0 I.kIn h1 h2 (fun self => .of_pure (PySem.W.oi_bind self)) ?_))
  have I3 := Inv.made (C := He.ga X.K x) I
  have f1 : H s.heap.objs.size = none := I.hok.fresh (Nat.le_refl _)
  have f2 : H (s.heap.objs.size + 1) = none := I.hok.fresh (Nat.le_succ _)
  obtain ⟨rmA, mA⟩ := rm.upd_new (u := .own (s.heap.objs.size + 1)) f1
  have f3 : upd H s.heap.objs.size (.own (s.heap.objs.size + 1)) (s.heap.objs.size + 1) = none := by rw [upd_ne (Nat.succ_ne_self _)]; exact f2
  obtain ⟨rmB, mB, hiB⟩ := rmA.alloc (u := .ins (He.ga X.K x) s.heap.objs.size []) (o := .ins x []) f3 ⟨_, [], upd_same, .nil⟩
  have at_ : ((s.heap.push PySem.W.emptyDict).push (PySem.W.instObj (He.ga X.K x) s.heap.objs.size)).get? (s.heap.objs.size + 1) = some (PySem.W.instObj (He.ga X.K x) s.heap.objs.size) := by
    rw [← Heap.size_push s.heap PySem.W.emptyDict]
    exact Heap.get?_push_size _ rfl
  have t2 : PySem.W.Looks (model X.prog X.w) ((s.heap.push PySem.W.emptyDict).push (PySem.W.instObj (He.ga X.K x) s.heap.objs.size)) (isInstance (.ref (s.heap.objs.size + 1)) (.type "object")) true := (NwA.type_at (M := model X.prog X.w) (C := He.ga X.K x) at_ rfl).andThen (PySem.W.looks_mroIn I3.kIn h3)
  refine codeAny_call_builtin PySem.W.oi_plain PySem.W.entry_oi (@PySem.W.check_slot (model X.prog X.w) _ _ _ "object.__init__" "object" "__init__" (.ref (s.heap.objs.size + 1)) [] [] _ PySem.W.oi_kind PySem.W.oi_split t2 (NwA.oi_args_any _ [] []) ?_)
  rw [PySem.W.oi_run]
  exact wpAny_pure ⟨rfl, ⟨V.ref (s.heap.objs.size + 1), _, I3, rfl, q _ _ _ (mA.trans mB) rmB (.ref hiB)⟩⟩
/-! ### a call through a value -/
theorem relV_ref {v : V} {a : Addr} {u : Value} (h : RelV v (.ref a)) (h2 : RelV v u) : u = .ref a := by
  cases v <;> first | (cases h; cases h2; rfl) | (obtain ⟨t, ht⟩ := h; cases ht) | cases h
def isAttr [DecidableEq Str] [DecidableEq Key] [DecidableEq String] [(α : Type) → GetElem? (List α) Nat α fun l i => i < l.length] [(α : Type) → Append (List α)] [(i j : Int) → Decidable (i < j)] [(i j : Int) → Decidable (i ≤ j)] : Expr → Bool
  | .Attribute _ _ _ => true
  | _ => false
def viaD [DecidableEq Str] [DecidableEq Key] [DecidableEq String] [(α : Type) → GetElem? (List α) Nat α fun l i => i < l.length] [(α : Type) → Append (List α)] [(i j : Int) → Decidable (i < j)] [(i j : Int) → Decidable (i ≤ j)] (gf : Gf) (T : Tb) (kws : List Keyword) (df : ED) (dr dk : AD) : ED := fun ρ M => (df ρ M).bind fun d M1 => match d with
  | .gl x => (match gf.fns.lookup x with
    | some i => if i.top then argsE dr dk (fun ds es' => callF gf T x ds ((kwNames kws).zip es')) ρ M1 else .no
    | none => .no)
  | _ => .no
theorem q_via (F : FactsF X.prog X.w X.K X.mg gf adr) (hT : AllOk X.prog X.w X.K X.mg X.base gf adr k T) (hr : Room k X.A) (gd : X.A.guards = some []) (tk : Takes X W) (hf : PE X f (rE X W df)) (hat : isAttr f = false)
    (ha : PA X es (rA X W dr)) (hkw : PK X kws (rA X W dk)) (hn : es = [] → dr = dNil) (hs : es.all (fun e => !isStar e) = true) (hw : kwAll kws = true) : PE X (.Call f es kws pos) (rE X W (viaD gf T kws df dr dk)) := by
  refine ⟨fun pins s σ H Q I ⟨ι, ρ, M, rm, re, q⟩ => ?_⟩
  have he : eval (.Call f es kws pos) X.env = (eval f X.env >>= fun v => callWith pos v [] (backTo pos (starEach es X.env)) (backToKw pos (keywordEach kws X.env))) := by
    cases f <;> first | rfl | cases hat
  rw [he]
  refine wpAny_bind (thn (hf.run pins s σ H _ I ⟨ι, ρ, M, rm, re, Post.bind q⟩) fun u s1 ⟨xv, H1, I1, rx, ι1, d, M1, m1, rm1, hx, q1⟩ => ?_)
  split at q1
  · rename_i x
    split at q1
    · rename_i i hi
      split at q1
      · rename_i ht
        have hm := F.top x i hi ht
        obtain ⟨fd, dvs, kws', FD, _⟩ := F.fn x i hi
        cases hx with
        | gl h1 h2 =>
        have h1 : X.mg x = some _ := h1
        rw [hm] at h1
        cases h1
        obtain rfl := relV_ref h2 rx
        refine call_with (kept_of FD.kp) I1 ha hkw hn hs hw rm1 (re.mono m1) _ Q q1 fun s2 H2 ι2 M2 us vs ds ws zs es' I2 m2 rm2 ru rz rv rz' q2 => ?_
        exact run_call F hT hr gd I2.env0 tk I2 rm2 ru rz rv rz' q2
      · exact q1.elim
    · exact q1.elim
  · exact q1.elim
end
end Ev
set_option Elab.async false
set_option linter.all false
set_option maxRecDepth 100000
set_option maxHeartbeats 4000000
/-! sum(.., start=i), max(.., default=i), len of an instance. -/
namespace Ev
open PySem PySem.Spec PyProof.Rows L2
section
variable {prog : Program} {w : World} {A : Around} {E : Value → Shared → Prop} {s : Shared}
/-- a walk, one later: what stands ahead is counted already -/
theorem walk_later {I : Addr} {fp wr : List Addr} {G : Array GenState → Array GenState → Prop} {n : Nat} {P : Nat → Value → Prop} {St : Nat → Shared → Prop} (Wk : WalksS prog w A I fp wr G n P St) :
    WalksS prog w A I fp wr G (n + 1) (fun j v => ∃ i, j = i + 1 ∧ P i v) (fun j s => ∃ i, j = i + 1 ∧ St i s) where
  sub := Wk.sub
  grefl := Wk.grefl
  gtrans := Wk.gtrans
  frame := fun j s h' tk ⟨i, e, st⟩ le k => ⟨i, e, Wk.frame i s h' tk st le k⟩
  item := fun j s Q E hj ⟨i, e, st⟩ h => Wk.item i s Q E (by omega) st fun v s' hp hst hm => h v s' ⟨i, e, hp⟩ ⟨i + 1, by omega, hst⟩ hm
  done := fun s Q E ⟨i, e, st⟩ h => Wk.done s Q E (by rw [show n = i from by omega]; exact st) h
  self := fun j s Q E ⟨i, e, st⟩ h => Wk.self i s Q E st h
def laterV [DecidableEq Str] [DecidableEq Key] [DecidableEq String] [(α : Type) → GetElem? (List α) Nat α fun l i => i < l.length] [(α : Type) → Append (List α)] [(i j : Int) → Decidable (i < j)] [(i j : Int) → Decidable (i ≤ j)] (i : Int) (val : Nat → Int) : Nat → Int
  | 0 => i
  | j + 1 => val j
theorem laterV_sum (i : Int) (val : Nat → Int) : ∀ n, preSum (laterV i val) (n + 1) = i + preSum val n
  | 0 => by show (0 : Int) + i = i + 0; omega
  | n + 1 => by
    have ih := laterV_sum i val n
    show preSum (laterV i val) (n + 1) + val n = i + (preSum val n + val n)
    rw [ih]
    omega
theorem args_sum2 (a b : Value) : argsOk "sum" ⟨[a], [("start", b)]⟩ := by unfold argsOk; kernel_rfl
theorem args_max2 (a b : Value) : argsOk "max" ⟨[a], [("default", b)]⟩ := by unfold argsOk; kernel_rfl
theorem call_kw {id : String} {b : Builtin} {args : Args} {Q : Value → Shared → Prop} (hk : builtinKind id = none) (hp : plainId id = true) (hb : entryFor table id = some b) (ha : argsOk id args)
    (hc : wpAny (model prog w) A.in1 (b args) (fun fin s' => match fin with
      | .done f => (match (Except.ok f : Result) with | .ok (.ret v) => Q v s' | .ok _ => False | .error e => E e s')
      | .again c' => c'.quiet = true ∧ codeAny (model prog w) A c' (fun r s' => match r with | .ok (.ret v) => Q v s' | .ok _ => False | .error e => E e s') s') E s) :
    wpAny (model prog w) A (call (.builtin id) args.pos args.kw) Q E s := by
  refine wpAny_call (codeAny_call_builtin hp hb ?_)
  simp only [checkBuiltinCall, hk]
  cases q : Manifest.signature? id with
  | none => exact wpAny_pure hc
  | some sig =>
    unfold argsOk at ha
    rw [q] at ha
    have h2 : Bind.checkArgs id sig args = pure () := ha
    show wpAny _ A.in1 (Bind.checkArgs id sig args) _ _ s
    rw [h2]
    exact wpAny_pure hc
def valL [DecidableEq Str] [DecidableEq Key] [DecidableEq String] [(α : Type) → GetElem? (List α) Nat α fun l i => i < l.length] [(α : Type) → Append (List α)] [(i j : Int) → Decidable (i < j)] [(i j : Int) → Decidable (i ≤ j)] (ns : List Int) (i : Nat) : Int := ns[i]?.getD 0
theorem valL_cons (n : Int) (r : List Int) : valL (n :: r) = laterV n (valL r) := by
  funext i
  cases i <;> rfl
def inL [DecidableEq Str] [DecidableEq Key] [DecidableEq String] [(α : Type) → GetElem? (List α) Nat α fun l i => i < l.length] [(α : Type) → Append (List α)] [(i j : Int) → Decidable (i < j)] [(i j : Int) → Decidable (i ≤ j)] (i : Int) : Bool := decide (-(2 ^ 63) ≤ i) && decide (i < 2 ^ 63)
theorem inL_of {i : Int} (h : inL i = true) : InLong i := by
  unfold inL at h
  rw [Bool.and_eq_true, decide_eq_true_eq, decide_eq_true_eq] at h
  exact h
def sumFits [DecidableEq Str] [DecidableEq Key] [DecidableEq String] [(α : Type) → GetElem? (List α) Nat α fun l i => i < l.length] [(α : Type) → Append (List α)] [(i j : Int) → Decidable (i < j)] [(i j : Int) → Decidable (i ≤ j)] : Int → List Int → Bool
  | acc, [] => inL acc
  | acc, n :: r => inL acc && inL n && sumFits (acc + n) r
theorem sum_fits : ∀ (ns : List Int) (acc : Int), sumFits acc ns = true → ∀ j, j ≤ ns.length → InLong (acc + preSum (valL ns) j) ∧ (j < ns.length → InLong (valL ns j))
  | [], acc, h, j, hj => by
    have : j = 0 := by simpa using hj
    subst this
    refine ⟨?_, fun z => absurd z (by simp)⟩
    show InLong (acc + 0)
    rw [Int.add_zero]
    exact inL_of h
  | n :: r, acc, h, j, hj => by
    unfold sumFits at h
    rw [Bool.and_eq_true, Bool.and_eq_true] at h
    obtain ⟨⟨h1, h2⟩, h3⟩ := h
    rw [valL_cons]
    cases j with
    | zero =>
      refine ⟨?_, fun _ => inL_of h2⟩
      show InLong (acc + 0)
      rw [Int.add_zero]
      exact inL_of h1
    | succ j =>
      obtain ⟨i1, i2⟩ := sum_fits r (acc + n) h3 j (by simpa using hj)
      refine ⟨?_, fun z => i2 (by simpa using z)⟩
      rw [laterV_sum, ← Int.add_assoc]
      exact i1
theorem preSum_valL : ∀ ns : List Int, preSum (valL ns) ns.length = ns.sum
  | [] => rfl
  | n :: r => by rw [valL_cons, List.length_cons, laterV_sum, preSum_valL r, List.sum_cons]
theorem ints_at : ∀ {its : List Value} {ns : List Int} {i : Nat} {v : Value}, IntsAre its ns → its[i]? = some v → ∃ t, v = .int (valL ns i) t
  | _, _, _, _, .nil, h => by simp at h
  | _, _, 0, _, .cons n t _, h => by simp at h; exact ⟨t, h.symm⟩
  | _, _, i + 1, _, .cons n t l, h => by
    obtain ⟨t', e⟩ := ints_at (i := i) l (by simpa using h)
    exact ⟨t', e⟩
theorem ints_len : ∀ {its : List Value} {ns : List Int}, IntsAre its ns → its.length = ns.length
  | _, _, .nil => rfl
  | _, _, .cons _ _ l => congrArg Nat.succ (ints_len l)
theorem sum_start {l : Addr} {its : List Value} {ns : List Int} {i : Int} {t : Tok} {Q : Value → Shared → Prop} (hh : A.handled = none) (hl : s.heap.IsList l its.toArray) (hi : IntsAre its ns) (hf : sumFits i ns = true)
    (h : ∀ h' tk t', (∀ b o, s.heap.get? b = some o → h'.get? b = some o) → Q (.int (i + ns.sum) t') { s with heap := h', toks := tk }) : wpAny (model prog w) A (call (.builtin "sum") [.ref l] [("start", .int i t)]) Q E s := by
  refine call_kw (args := ⟨[.ref l], [("start", .int i t)]⟩) F.kind_sum F.plain_sum F.entry_sum (args_sum2 _ _) ?_
  unfold Builtin.«sum»
  simp only [List.length_cons, List.length_nil]
  rw [if_neg (by decide)]
  have hlt : l < s.heap.objs.size := by obtain ⟨_, e, _⟩ := hl; exact Heap.lt_size e
  refine wpAny_bind (wpAny_of_eq (show Builtin.Builtins.bindParams "sum" ["start"] 0 ⟨[], [("start", .int i t)]⟩ = pure [some (.int i t)] from rfl) ?_)
  refine wpAny_bind (wpAny_pyIter_list hl ?_)
  have hi0 := (sum_fits ns i hf 0 (Nat.zero_le _)).1
  have hi1 : InLong i := by
    have e : i + preSum (valL ns) 0 = i := Int.add_zero i
    rw [e] at hi0
    exact hi0
  simp only []
  rw [if_pos]
  · refine wpAny_bind (wpAny_rule (wpAny_bind (wpAny_mkInt (wpAny_bind (wpAny_pure ?_)))))
    simp only [List.forIn_cons, List.forIn_nil]
    refine wpAny_bind (wpAny_bind (wpAny_bind (wpAny_isInstance (T := "int") (b := false) (typeIs_int _ _ _) PySem.sub_int_str ?_)))
    simp only [Bool.false_eq_true, if_false]
    refine wpAny_pure (wpAny_bind (wpAny_bind (wpAny_isInstance (T := "int") (b := false) (typeIs_int _ _ _) PySem.sub_int_bytes ?_)))
    simp only [Bool.false_eq_true, if_false]
    refine wpAny_pure (wpAny_bind (wpAny_bind (wpAny_isInstance (T := "int") (b := false) (typeIs_int _ _ _) PySem.sub_int_bytearray ?_)))
    simp only [Bool.false_eq_true, if_false]
    refine wpAny_pure (wpAny_pure (wpAny_bind (wpAny_newObj_type ?_)))
    have Wk := walk_later (Walks.list (prog := prog) (w := w) (A := A.in1) hh s.heap.objs.size l (Nat.ne_of_lt hlt) its.toArray).toS
    have hn := ints_len hi
    refine wpAny_pure ⟨plainId_quiet F.plain_sum_loop _, codeAny_sum_loopS (R := fun r s' => match r with | .ok (.ret v) => Q v s' | .ok _ => False | .error e => E e s') Wk (laterV i (valL ns)) ?_ ?_ (s.heap.push { cls := .type "list_iterator", data := .fields #[.ref l, .int 0 0] }).objs.size ?_ its.toArray.size 1 _ s.toks 0 (by omega) (by omega) ?_ ?_ fun s' t' hm => ?_⟩
    · rintro j v ⟨k, rfl, hv⟩
      exact ints_at hi (by simpa using hv)
    · intro j hj
      rw [laterV_sum]
      rw [List.size_toArray] at hj
      refine ⟨?_, (sum_fits ns i hf j (by omega)).1⟩
      cases j with
      | zero => exact hi1
      | succ j => exact (sum_fits ns i hf j (by omega)).2 (by omega)
    · intro hm
      rw [Heap.size_push] at hm
      rcases List.mem_cons.mp hm with z | z
      · exact absurd z (Nat.succ_ne_self _)
      · rw [List.mem_singleton] at z
        exact absurd hlt (by rw [← z]; exact Nat.not_lt_of_le (Nat.le_succ _))
    · refine ⟨0, rfl, ⟨{ cls := .type "list_iterator", data := .fields #[.ref l, .int 0 0] }, ?_, rfl, rfl⟩, (hl.push _).push _⟩
      exact Heap.get?_push_of_some _ (Heap.get?_push_size _ rfl)
    · rw [show preSum (laterV i (valL ns)) 1 = i from Int.zero_add i]
      exact Heap.get?_push_size _ rfl
    · obtain ⟨h', g', d', tk, o'⟩ := s'
      obtain ⟨m1, m2, m3, m4, _⟩ := hm
      have m2 : g' = s.gens := m2
      have m3 : d' = s.drawn := m3
      have m4 : o' = s.os := m4
      subst m2 m3 m4
      have e : preSum (laterV i (valL ns)) (its.toArray.size + 1) = i + ns.sum := by rw [laterV_sum, List.size_toArray, hn, preSum_valL]
      have q := h h' tk t' fun b o e => m1 b o (by
        have hb := Heap.lt_size e
        intro z
        rcases List.mem_cons.mp z with z | z
        · rw [Heap.size_push] at z
          exact absurd hb (by rw [z]; exact Nat.not_lt_of_le (Nat.le_succ _))
        · rw [List.mem_singleton] at z
          exact absurd hb (by rw [z]; exact Nat.lt_irrefl _)) (Heap.get?_push_of_some _ (Heap.get?_push_of_some _ e))
      rw [← e] at q
      exact q
  · show (decide (-(2 ^ 63) ≤ i) && decide (i < 2 ^ 63)) = true
    rw [decide_eq_true hi1.1, decide_eq_true hi1.2]
    rfl
end
section
variable {X : Cx} {W : WX} {g : Pg} {pins : List (Addr × Obj)} {σ : L2.St} {H : Hp} {s : Shared} {ι : List Addr} {ρ : Env1} {M : Store}
/-! ### repr -/
def isBox [DecidableEq Str] [DecidableEq Key] [DecidableEq String] [(α : Type) → GetElem? (List α) Nat α fun l i => i < l.length] [(α : Type) → Append (List α)] [(i j : Int) → Decidable (i < j)] [(i j : Int) → Decidable (i ≤ j)] : D → Bool
  | .tup _ => true
  | .kt _ => true
  | .ref _ => true
  | _ => false
def reprD [DecidableEq Str] [DecidableEq Key] [DecidableEq String] [(α : Type) → GetElem? (List α) Nat α fun l i => i < l.length] [(α : Type) → Append (List α)] [(i j : Int) → Decidable (i < j)] [(i j : Int) → Decidable (i ≤ j)] : List D → Store → R D
  | [d], M => if isBox d then (match toPy 30 M d with
      | some y => if y.showable && !y.hasDict && decide (y.shown.length ≤ sizeLine) && decide (y.depth ≤ 40) then ret (.str y.shown) M else .no
      | none => .no) else .no
  | _, _ => .no
theorem k_repr (gd : X.A.guards = some []) (hu : X.A.units + 64 < cLine) : CallS X (.builtin "repr") reprD := fun pins s σ H xs us Q ι M ds W I r rm rl q => by
  unfold reprD at q
  split at q
  · rename_i d
    obtain ⟨x, rfl, h⟩ := rl.one
    split at q
    · rename_i hb
      split at q
      · rename_i y hy
        split at q
        · rename_i hc
          simp only [Bool.and_eq_true, Bool.not_eq_true', decide_eq_true_eq] at hc
          obtain ⟨⟨⟨c1, c2⟩, c3⟩, c4⟩ := hc
          cases r with
          | @cons _ u _ us ru rr =>
          cases rr
          obtain ⟨hd, _⟩ := toPy_rep rm h hy
          obtain ⟨as, hr⟩ := Dp.reads I y x u hd ru
          obtain ⟨a, rfl⟩ : ∃ a, x = .ref a := by
            cases h <;> first | exact ⟨_, rfl⟩ | cases hb
          obtain rfl : u = Value.ref a := ru
          refine repr_of_reads' hr c1 (fun z => by rw [c2] at z; cases z) gd (by omega) (fun b o e => e) (fun h' t tk k => ?_) c3
          exact ⟨V.str y.shown, H, I.kept k, ⟨_, rfl⟩, Post.ret q rm (.str _)⟩
        · exact q.elim
      · exact q.elim
    · exact q.elim
  · exact q.elim
end
section
variable {X : Cx} {W : WX} {gf : Gf} {adr : Str → Addr} {T T1 : Tb} {k : Nat} {a : Expr} {da : ED} {p pos : Pos} {pins : List (Addr × Obj)} {σ : L2.St} {H : Hp} {s : Shared} {ι : List Addr} {ρ : Env1} {M : Store}
/-! ### len -/
def lenKey [DecidableEq Str] [DecidableEq Key] [DecidableEq String] [(α : Type) → GetElem? (List α) Nat α fun l i => i < l.length] [(α : Type) → Append (List α)] [(i j : Int) → Decidable (i < j)] [(i j : Int) → Decidable (i ≤ j)] (gf : Gf) (M : Store) : D → Option Str
  | .ref r => (match M[r]? with
    | some (.ins c _) => (gf.mts.lookup c).bind fun ms => ms.lookup ("__len__" : Str)
    | _ => none)
  | _ => none
def lenO [DecidableEq Str] [DecidableEq Key] [DecidableEq String] [(α : Type) → GetElem? (List α) Nat α fun l i => i < l.length] [(α : Type) → Append (List α)] [(i j : Int) → Decidable (i < j)] [(i j : Int) → Decidable (i ≤ j)] (gf : Gf) (T1 : Tb) (d : D) (M : Store) : R D := match lenKey gf M d with
  | some key => (callF gf T1 key [d] [] M).bind fun n M1 => (match n with
    | .int i => if 0 ≤ i ∧ i < 2 ^ 63 then .ok (.int i) M1 else .no
    | _ => .no)
  | none => lenD [d] M
theorem q_len (F : FactsF X.prog X.w X.K X.mg gf adr) (hT : AllOk X.prog X.w X.K X.mg X.base gf adr k T1) (hr : Room (k + 1) X.A) (gd : X.A.guards = some []) (tk : Takes X W) (hg : Gl X "len") (hm : X.mg "len" = none) (ha : PE X a (rE X W da)) (hs : starEach [a] X.env = (false, eval a X.env) :: starEach [] X.env) :
    PE X (.Call (.Name "len" p) [a] [] pos) (rE X W (unD (lenO gf T1) da)) := by
  refine ⟨fun pins s σ H Q I ⟨ι, ρ, M, rm, re, q⟩ => ?_⟩
  have hdb : (("len" : Str) == ("__debug__" : Str)) = false := by decide
  refine wpAny_Call_Name_kw (ld_blt I hg hm (u := .builtin "len") (by decide +kernel) ?_ (by decide) hdb)
  have hpa := q_cons ha (q_nil (X := X) (W := W)) hs
  refine PyProof.Rows.callWith_builtin1 (thn (hpa.run pos pins s σ H (fun vs H1 => ∃ ι1 M1 x d, Mono ι H ι1 H1 ∧ vs = [x] ∧ RepM (pw X) ι1 H1 M1 ∧ Rep (pw X) ι1 H1 x d ∧ Post (pw X) ι1 H1 (Rep (pw X)) Q (WE W σ) (lenO gf T1 d M1)) I ⟨ι, ρ, M, rm, re, ?_⟩) fun us s1 ⟨vs, H1, I1, r1, ι1, M1, x, d, m1, ev, rm1, rx, q1⟩ => ?_) hs rfl
  · have q2 := Post.bind (rel := Rep (pw X)) q
    unfold dCons
    cases ed : da ρ M with
    | no => rw [ed] at q2; exact q2.elim
    | ex C fs M' => rw [ed] at q2; exact q2
    | ok d M' =>
      rw [ed] at q2
      intro ι2 H2 b m2 rm2 rb
      cases rb with
      | cons rx l =>
        cases l
        obtain ⟨ι3, d3, M3, m3, rm3, r3, q3⟩ := q2 ι2 H2 _ m2 rm2 rx
        exact ⟨ι2, M', _, d, m2, rfl, rm2, rx, by
          have q4 : Post (pw X) ι H (Rep (pw X)) Q (WE W σ) ((da ρ M).bind (lenO gf T1)) := q
          rw [ed] at q4
          exact Post.mono q4 m2⟩
  · subst ev
    cases r1 with
    | @cons _ u _ us ru rr =>
    cases rr
    unfold lenO at q1
    split at q1
    · rename_i key hk
      unfold lenKey at hk
      split at hk
      · rename_i r
        cases rx with
        | @ref a0 _ hi =>
        obtain rfl : u = Value.ref a0 := ru
        split at hk
        · rename_i c fs hc
          obtain ⟨dx, vs0, ha0, l⟩ := rm1.at_ r a0 _ hi hc
          obtain ⟨ms, e1, e2⟩ := Option.bind_eq_some_iff.mp hk
          obtain ⟨hm', hc'⟩ := F.mt c ms "__len__" key e1 e2
          obtain ⟨mA, O, _⟩ := ins_get I1.hok ha0
          obtain ⟨od, hod, _⟩ := lookIn_ns O.ns
          obtain ⟨m, hn, _⟩ := I1.loc
          have IA : PySem.W.InstAt s1.heap a0 (PySem.W.instObj (He.ga X.K c) dx) (He.ga X.K c) (some od) := ⟨O.obj, rfl, rfl, hod⟩
          refine PySem.W.len_K ⟨hn, fun b o e => I1.bk b o e, Nat.le_trans I1.ok.bsz I1.ok.above⟩ I1.ok.mod.kin IA hm'.at_ hm'.fn ?_
          have q2 := Post.bind (rel := Rep (pw X)) q1
          refine thn (run_call (ks := []) (us := [.ref a0]) (ws := []) (vs := [.ref a0]) (zs := []) (ds := [.ref r]) (es' := []) F hT (hr.in1) (guards_in1 gd) I1.env0.in1 tk I1 rm1 (.cons rfl .nil) .nil (.cons (.ref hi) .nil) .nil q2) fun v s2 ⟨xv, H2, I2, rv, ι2, d2, M2, m2, rm2, rd2, q3⟩ => ?_
          split at q3
          · split at q3
            · rename_i i hb
              cases rd2
              obtain ⟨t, rfl⟩ := rv
              exact ⟨hb, V.int i, H2, I2.tok _, ⟨_, rfl⟩, q3 _ _ _ .refl rm2 (.int i)⟩
            · exact q3.elim
          · exact q3.elim
        · cases hk
      · cases hk
    · exact k_len pins s1 σ H1 [x] [u] Q ι1 M1 [d] _ I1 (.cons ru .nil) rm1 (.cons rx .nil) q1
end
end Ev
set_option Elab.async false
set_option linter.all false
set_option maxRecDepth 100000
set_option maxHeartbeats 4000000
/-! Dicts walked: locked for a while; the pairs of a dict with tuple keys. -/
namespace Ev
open PySem PySem.Spec PyProof.Rows L2
section
variable {p : Pw} {ι : List Addr} {H H' : Hp}
mutual
theorem Rep.heap (t : ∀ a xs, H a = some (.tup xs) → H' a = some (.tup xs)) : ∀ {v : V} {d : D}, Rep p ι H v d → Rep p ι H' v d
  | _, _, .non => .non
  | _, _, .bl b => .bl b
  | _, _, .int i => .int i
  | _, _, .str x => .str x
  | _, _, .tup h l => .tup (t _ _ h) (RepL.heap t l)
  | _, _, .kt h l => .kt h (RepL.heap t l)
  | _, _, .ref h => .ref h
  | _, _, .gl h r => .gl h r
  | _, _, .ty n => .ty n
theorem RepL.heap (t : ∀ a xs, H a = some (.tup xs) → H' a = some (.tup xs)) : ∀ {vs : List V} {ds : List D}, RepL p ι H vs ds → RepL p ι H' vs ds
  | _, _, .nil => .nil
  | _, _, .cons h l => .cons (Rep.heap t h) (RepL.heap t l)
end
theorem RepK.heap {κ : Type} (t : ∀ a xs, H a = some (.tup xs) → H' a = some (.tup xs)) : ∀ {vs : List (κ × V)} {ds : List (κ × D)}, RepK p ι H vs ds → RepK p ι H' vs ds
  | _, _, .nil => .nil
  | _, _, .cons h l => .cons (h.heap t) (RepK.heap t l)
theorem RepO.heap {a : Addr} {o : MO} (t : ∀ a xs, H a = some (.tup xs) → H' a = some (.tup xs)) (e : H' a = H a) (h : RepO p ι H a o) : RepO p ι H' a o := by
  cases o with
  | lst _ => obtain ⟨vs, q, r⟩ := h; exact ⟨vs, e.trans q, r.heap t⟩
  | ro _ => obtain ⟨vs, o, q, r, z⟩ := h; exact ⟨vs, o, e.trans q, r.heap t, z⟩
  | dK _ => obtain ⟨vs, q, r⟩ := h; exact ⟨vs, e.trans q, r.heap t⟩
  | dT _ => obtain ⟨vs, q, r⟩ := h; exact ⟨vs, e.trans q, r.heap t⟩
  | ins _ _ => obtain ⟨dx, vs, q, r⟩ := h; exact ⟨dx, vs, e.trans q, r.heap t⟩
  | lkK _ => obtain ⟨vs, o, q, r⟩ := h; exact ⟨vs, o, e.trans q, r.heap t⟩
  | lkT _ => obtain ⟨vs, o, q, r⟩ := h; exact ⟨vs, o, e.trans q, r.heap t⟩
  | pot _ => obtain ⟨x, y, q, r⟩ := h; exact ⟨x, y, e.trans q, r⟩
/-- a frozen object let go: the store again as said -/
theorem unlock_rep {M : Store} {r : Nat} {a : Addr} {od : Obj} {u : HO} {o : MO} (rm : RepM p ι H M) (hr : ι[r]? = some a) (ha : H a = some (.frz od u)) (h : RepO p ι (upd H a u) a o) : RepM p ι (upd H a u) (M.set r o) := by
  have t : ∀ b xs, H b = some (.tup xs) → upd H a u b = some (.tup xs) := fun b xs e => by
    rw [upd_ne]
    · exact e
    · rintro rfl
      rw [ha] at e
      cases e
  refine ⟨by simp [rm.len], rm.nd, fun j b q h1 h2 => ?_⟩
  by_cases hj : j = r
  · subst hj
    rw [hr] at h1
    cases h1
    have hl : j < M.length := by rw [← rm.len]; exact (List.getElem?_eq_some_iff.mp hr).1
    rw [List.getElem?_set_self hl] at h2
    cases h2
    exact h
  · rw [List.getElem?_set_ne (Ne.symm hj)] at h2
    have nb : b ≠ a := by
      rintro rfl
      obtain ⟨l1, e1⟩ := List.getElem?_eq_some_iff.mp h1
      obtain ⟨l2, e2⟩ := List.getElem?_eq_some_iff.mp hr
      exact hj ((List.getElem_inj rm.nd).mp (e1.trans e2.symm))
    exact (rm.at_ j b q h1 h2).heap t (upd_ne nb)
end
/-- a dict of the store, as it is and locked -/
def lockO [DecidableEq Str] [DecidableEq Key] [DecidableEq String] [(α : Type) → GetElem? (List α) Nat α fun l i => i < l.length] [(α : Type) → Append (List α)] [(i j : Int) → Decidable (i < j)] [(i j : Int) → Decidable (i ≤ j)] (M : Store) (r : Nat) : Option (MO × MO) := match M[r]? with
  | some (.dK kvs) => some (.dK kvs, .lkK kvs)
  | some (.dT kvs) => some (.dT kvs, .lkT kvs)
  | _ => none
def lockE [DecidableEq Str] [DecidableEq Key] [DecidableEq String] [(α : Type) → GetElem? (List α) Nat α fun l i => i < l.length] [(α : Type) → Append (List α)] [(i j : Int) → Decidable (i < j)] [(i j : Int) → Decidable (i ≤ j)] (rf : Env1 → Store → Option Nat) (de : ED) : ED := fun ρ M => match rf ρ M with
  | some r => (match lockO M r with
    | some o => (noEx (de ρ (M.set r o.2))).bind fun d M1 => .ok d (M1.set r o.1)
    | none => .no)
  | none => .no
section
variable {X : Cx} {W : WX} {gf : Gf} {a b c e o : Expr} {da db dc dd de : ED} {dr : AD} {pos apos cpos tpos : Pos} {pins : List (Addr × Obj)} {σ : L2.St} {H : Hp} {s : Shared} {ι : List Addr} {ρ : Env1} {M : Store} {st : Stmt}
theorem lockO_ok {r : Nat} {o : MO × MO} {p : Pw} (rm : RepM p ι H M) (e : lockO M r = some o) : ∃ a u, ι[r]? = some a ∧ H a = some u ∧ Mut (some u) ∧ (∀ xs, u ≠ .tup xs) ∧ (∀ od v, u ≠ .frz od v) ∧
    (∀ od ι' H', Mono0 ι H ι' H' → H' a = some (.frz od u) → RepO p ι' H' a o.2) ∧ ∀ ι' H', (∀ b xs, H b = some (.tup xs) → H' b = some (.tup xs)) → (∃ t, ι' = ι ++ t) → H' a = some u → RepO p ι' H' a o.1 := by
  unfold lockO at e
  split at e
  · rename_i kvs q
    cases e
    obtain ⟨a, hi, vs, ha, l⟩ := rm.get q
    exact ⟨a, _, hi, ha, True.intro, (fun _ z => nomatch z), (fun _ _ z => nomatch z), fun od ι' H' m e => ⟨vs, od, e, l.mono0 m⟩, fun ι' H' t pre e => ⟨vs, e, (l.mono0 ⟨pre, fun _ _ z => z, fun _ _ _ z => z⟩).heap t⟩⟩
  · rename_i kvs q
    cases e
    obtain ⟨a, hi, vs, ha, l⟩ := rm.get q
    exact ⟨a, _, hi, ha, True.intro, (fun _ z => nomatch z), (fun _ _ z => nomatch z), fun od ι' H' m e => ⟨vs, od, e, l.mono0 m⟩, fun ι' H' t pre e => ⟨vs, e, (l.mono0 ⟨pre, fun _ _ z => z, fun _ _ _ z => z⟩).heap t⟩⟩
  · cases e
theorem q_lock (rf : Env1 → Store → Option Nat) (h : PE X e (rE X W de)) : PE X e (rE X W (lockE rf de)) := (pe_lock h).imp fun σ H Q ⟨ι, ρ, M, rm, re, q⟩ => by
  unfold lockE at q
  split at q
  · rename_i r _
    split at q
    · rename_i o ho
      obtain ⟨a, u, hi, ha, mu, hnt, hnf, hlk, hun⟩ := lockO_ok rm ho
      refine ⟨a, u, ha, mu, fun od => ?_⟩
      have tt : ∀ b xs, H b = some (.tup xs) → upd H a (.frz od u) b = some (.tup xs) := fun b xs e => by
        rw [upd_ne]
        · exact e
        · rintro rfl
          rw [ha] at e
          cases e
          exact absurd rfl (hnt _)
      obtain ⟨rm1, m1⟩ := rm.upd_set (u := .frz od u) (o' := o.2) hi ha hnt (hlk od ι _ (Mono.set (List.mem_of_getElem? hi) ha hnt hnf).toMono0 upd_same) hnf
      refine ⟨ι, ρ, _, rm1, re.mono m1, ?_⟩
      cases ed : de ρ (M.set r o.2) with
      | no => rw [ed] at q; exact q.elim
      | ex C fs M' => rw [ed] at q; exact q.elim
      | ok d M' =>
        rw [ed] at q
        have q : Post (pw X) ι H (Rep (pw X)) Q (WE W σ) (.ok d (M'.set r o.1)) := q
        intro ι2 H2 v m2 rm2 rv
        have hz := m2.frz a od u upd_same
        refine ⟨hz, ?_⟩
        have t2 : ∀ b xs, H b = some (.tup xs) → upd H2 a u b = some (.tup xs) := fun b xs e => by
          rw [upd_ne]
          · exact m2.tup b xs (tt b xs e)
          · rintro rfl
            rw [ha] at e
            cases e
            exact absurd rfl (hnt _)
        have rm3 := unlock_rep rm2 (m2.at_ hi) hz (hun ι2 (upd H2 a u) t2 m2.pre upd_same)
        refine q ι2 _ v ⟨⟨m2.pre, t2, fun b o' w e => ?_⟩, fun b h1 h2 => ?_, fun b h1 => ?_⟩ rm3 (rv.heap fun b xs e => ?_)
        · rw [upd_ne]
          · refine m2.frz b o' w ?_
            rw [upd_ne]
            · exact e
            · rintro rfl
              rw [ha] at e
              cases e
              exact absurd rfl (hnf _ _)
          · rintro rfl
            rw [ha] at e
            cases e
            exact absurd rfl (hnf _ _)
        · have nb : b ≠ a := by rintro rfl; exact h1 (List.mem_of_getElem? hi)
          rw [upd_ne nb, m2.frame b h1 (by rw [upd_ne nb]; exact h2), upd_ne nb]
        · rcases m2.fresh b h1 with h2 | h2
          · exact .inl h2
          · by_cases nb : b = a
            · exact .inl (nb ▸ List.mem_of_getElem? hi)
            · rw [upd_ne nb] at h2; exact .inr h2
        · rw [upd_ne]
          · exact e
          · rintro rfl
            rw [hz] at e
            cases e
    · exact q.elim
  · exact q.elim
end
/-! ### the pairs of a dict with tuple keys -/
/-- each pair a new tuple, of the key's own tuple and the value -/
def ItiT [DecidableEq Str] [DecidableEq Key] [DecidableEq String] [(α : Type) → GetElem? (List α) Nat α fun l i => i < l.length] [(α : Type) → Append (List α)] [(i j : Int) → Decidable (i < j)] [(i j : Int) → Decidable (i ≤ j)] (d : Addr) (o : Obj) (kvs : List (List Key × V)) : It :=
  ⟨fun i H => H d = some (.frz o (.dT kvs)) ∧ i < kvs.length, fun i H x H' => ∃ T q k v, kvs[i]? = some (k, v) ∧ x = .ref T ∧ H T = none ∧ H q = some (.tup (k.map kV)) ∧ H' = upd H T (.tup [.ref q, v]), fun i H => H d = some (.frz o (.dT kvs)) ∧ kvs.length ≤ i⟩
theorem frzT_at {X : Cx} {pins : List (Addr × Obj)} {σ : L2.St} {H : Hp} {s : Shared} {d : Addr} {o : Obj} {kvs : List (List Key × V)} (I : Inv X pins σ H s) (h : H d = some (.frz o (.dT kvs))) :
    (d == sysModules) = false ∧ s.heap.get? d = some o ∧ o.ExactDict ∧ ∃ (es : Array DictEntry) (ep : Nat), o.data = .dict es ep ∧ es.size = kvs.length ∧
      ∀ (i : Nat) (k : List Key) (v : V), kvs[i]? = some (k, v) → ∃ (en : DictEntry) (q : Addr), es[i]? = some en ∧ en.key = .ref q ∧ H q = some (.tup (k.map kV)) ∧ RelV v en.val := by
  obtain ⟨hd, z, hs, xs, pr, o', es, ep, ho, hx, hdt, he, _⟩ := I.hok d _ h
  have eo : o' = o := Option.some.inj (ho.symm.trans hd)
  subst eo
  refine ⟨hs, hd, hx, es, ep, hdt, ?_, fun i k v e => ?_⟩
  · rw [show es.size = xs.length from size_of_entries he, ← Paired.length pr]
  · obtain ⟨b, hb, e1, e2, e3⟩ := paired_get pr e
    have q := entry_at he i
    rw [hb] at q
    exact ⟨_, b.2.1, q, rfl, e2, e3⟩
theorem turn_itT {P : Program} {w : World} {K : PySem.W.Frag} {d : Addr} {o : Obj} {es : Array DictEntry} {ep : Nat} {kvs : List (List Key × V)} {elts : List Expr} {kk : Nat} {tpos : Pos} (it : Addr) (hod : o.data = .dict es ep) :
    Turn P w K (.Tuple elts kk tpos) (ItiT d o kvs) [it] it (fun i h => ∃ ok ov, IsItemIter h it d i kvs.length ep ok ov) where
  mem := by simp
  obj := fun i h ⟨ok, ov, e⟩ b hb => by
    obtain rfl : b = it := by simpa using hb
    exact ⟨_, e, fun v z => nomatch z⟩
  keep := fun i h h' ⟨ok, ov, e⟩ k => ⟨ok, ov, k it (by simp) _ e⟩
  item := by
    intro X hP hw hK hc i pins s σ H E I hf st ⟨hd, hi⟩
    subst hP hw hK
    obtain ⟨_, hgd, hx, es', ep', hdt, hsz, ent⟩ := frzT_at I hd
    obtain ⟨rfl, rfl⟩ := dict_ep hod hdt
    have hkv : kvs[i]? = some (kvs[i].1, kvs[i].2) := List.getElem?_eq_getElem hi
    obtain ⟨en, q, he1, he2, hq, rv⟩ := ent i _ _ hkv
    obtain ⟨ok, ov, he⟩ := st
    rw [← hsz] at he
    have hlt : it < s.heap.objs.size := Heap.lt_size he
    have hi' : i < es'.size := by omega
    have een : es'[i] = en := by
      rw [Array.getElem?_eq_getElem hi'] at he1
      exact Option.some.inj he1
    refine DT.nextI he ⟨o, hgd, hx, hdt⟩ hi' fun h' ho hT hz hk => ?_
    rw [een, he2] at hT
    refine ⟨_, rfl, wpAny_letOwnedTupleGo_items (s := { s with heap := h' }) ho fun h'' he' sb => ?_⟩
    have new : ObjOk X.prog X.w (upd H s.heap.objs.size (.tup [.ref q, kvs[i].2])) h'' s.heap.objs.size (.tup [.ref q, kvs[i].2]) :=
      ⟨by show 2 ≤ sizeLine; decide, [.ref q, en.val], .cons rfl (.cons rv .nil), ⟨_, (sb.2 _ (Nat.ne_of_gt hlt)).trans hT, rfl, _, rfl⟩⟩
    have I1 : Inv X pins σ (upd H s.heap.objs.size (.tup [.ref q, kvs[i].2])) { s with heap := h'' } :=
      I.turnedNew (t' := s.toks) (ch := [it]) (fun b ob hb e => (sb.2 b (by simpa using hb)).trans (hk b ob (by simpa using hb) e)) hf (Nat.le_refl _) new
    refine ⟨.ref s.heap.objs.size, _, I1, rfl, ⟨_, q, _, _, hkv, rfl, I.hok.fresh (Nat.le_refl _), hq, rfl⟩, ⟨es'[i].key, es'[i].val, ?_⟩, fun b hb => ?_⟩
    · rw [← hsz]; exact he'
    · obtain rfl : b = it := by simpa using hb
      rw [upd_ne (Nat.ne_of_lt hlt)]
      exact (hf b (by simp)).1
  done := by
    intro X hP hw hK hc i pins s σ H E I hf st ⟨hd, hi⟩
    subst hP hw hK
    obtain ⟨f0, f1, f2, f3, f4, f5⟩ := hf it (by simp)
    obtain ⟨_, hgd, hx, es', ep', hdt, hsz, _⟩ := frzT_at I hd
    obtain ⟨rfl, rfl⟩ := dict_ep hod hdt
    obtain ⟨ok, ov, he⟩ := st
    rw [← hsz] at he
    exact DT.endI (I.ok.hd hc) he ⟨o, hgd, hx, hdt⟩ (by omega) fun h' eb => ⟨rfl, I.turned (t' := s.toks) (fun b ob hb e => eb b ob hb e) f0 f1 f3 f4 f5⟩
  self := fun A i s Q E st h => let ⟨_, _, e⟩ := st; PySem.W.kcp_self e h
def iItT [DecidableEq Str] [DecidableEq Key] [DecidableEq String] [(α : Type) → GetElem? (List α) Nat α fun l i => i < l.length] [(α : Type) → Append (List α)] [(i j : Int) → Decidable (i < j)] [(i j : Int) → Decidable (i ≤ j)] (td : TE) : TI := fun σ H R => td σ H fun x H1 => ∃ d o kvs, x = .ref d ∧ H1 d = some (.frz o (.dT kvs)) ∧ R (ItiT d o kvs) H1
theorem pi_itT {X : Cx} {e : Expr} {td : TE} {apos cpos tpos : Pos} {elts : List Expr} {kk : Nat} (he : PE X e td) (hbase : attributeBase e "items" X.env (eval e X.env) = eval e X.env) (hline : (apos.endLine == cpos.line) = true) :
    PI X (.Tuple elts kk tpos) (.Call (.Attribute e "items" apos) [] [] cpos) (iItT td) := by
  refine ⟨fun pins s σ H R I h => wpAny_Call_method (T := "dict") (id := "dict.items") hbase rfl hline F.plainAttrs_dict F.slot_dict_items F.type_dict_items (thn (he.run pins s σ H _ I h) fun u s1 ⟨x, H1, I1, rx, d, o, kvs, ex, hd, q⟩ => ?_)⟩
  subst ex
  obtain rfl : u = Value.ref d := rx
  obtain ⟨hs, hgd, hx, es, ep, hdt, hsz, ent⟩ := frzT_at I1 hd
  have raw : DT.Raw s1.heap d es ep := ⟨o, hgd, hx, hdt⟩
  refine ⟨raw.typeIs, ?_, ?_⟩
  · intro b eb
    cases eb
    exact ⟨o, hgd, hx.2.1⟩
  · have I2 : Inv X pins σ H1 { s1 with heap := s1.heap.push { cls := .type "dict_items", data := .fields #[.ref d] } } := I1.kept (t' := s1.toks) fun b ob q => Heap.get?_push_of_some _ q
    have fin : wpAny (model X.prog X.w) X.A (pyIter (.ref s1.heap.objs.size)) (PIE X pins σ (.Tuple elts kk tpos) R) X.xe { s1 with heap := s1.heap.push { cls := .type "dict_items", data := .fields #[.ref d] } } := by
      refine DT.iterI (es := es) (ep := ep) ⟨_, Heap.get?_push_size _ rfl, rfl, rfl⟩ (raw.push _) (pi_one (tk := s1.toks) I2 _ (turn_itT _ hdt) ⟨.none, .none, ?_⟩ q)
      rw [← hsz]
      exact Heap.get?_push_size _ rfl
    show wpAny _ _ (callWith cpos (.builtin "dict.items") [.ref d] [] []) _ X.xe s1
    exact method_meetsIn F.slot_dict_items F.entry_dict_items rfl (PySem.evalArgs_none ⟨rfl, raw.typeIs, F.args_dict_items_1 _, _, DT.meetsItems (es := es) (ep := ep) hs, raw, fin⟩)
section
variable {p : Pw} {ι : List Addr} {H : Hp} {M : Store}
theorem keyD_rep (k : Key) : Rep p ι H (kV k) (keyD k) := by
  cases k with
  | inl i => exact .int i
  | inr x => exact .str x
theorem keysD_rep : ∀ k : List Key, RepL p ι H (k.map kV) (k.map keyD)
  | [] => .nil
  | k :: r => .cons (keyD_rep k) (keysD_rep r)
theorem RepK.at_ {κ : Type} : ∀ {vs : List (κ × V)} {ds : List (κ × D)} {i : Nat} {kv : κ × D}, RepK p ι H vs ds → ds[i]? = some kv → ∃ v, vs[i]? = some (kv.1, v) ∧ Rep p ι H v kv.2
  | _, _, _, _, .nil, e => by simp at e
  | _, _, 0, _, .cons r _, e => by simp at e; subst e; exact ⟨_, rfl, r⟩
  | _, _, i + 1, _, .cons _ l, e => by
    obtain ⟨v, h1, h2⟩ := RepK.at_ (i := i) l (by simpa using e)
    exact ⟨v, by simpa using h1, h2⟩
theorem sim_itemsK {r : Nat} {a : Addr} {o : Obj} {vs : List (Key × V)} {ds : List (Key × D)} (ha : H a = some (.frz o (.dK vs))) (l : RepK p ι H vs ds) : SimI p ι H (Iti a o vs) (.itemsK r ds) := fun ι1 H1 M1 i m rm => by
  unfold nextI
  dsimp only
  have ha1 := m.frz _ _ _ ha
  have l := l.mono m
  have hl := l.length
  cases e : ds[i]? with
  | none =>
    have := List.getElem?_eq_none_iff.mp e
    exact ⟨ha1, by omega⟩
  | some kv =>
    obtain ⟨v, e2, rv⟩ := l.at_ e
    have hlt := (List.getElem?_eq_some_iff.mp e).1
    refine ⟨⟨ha1, by omega⟩, fun x H' ⟨T, k, v', e3, e4, e5, e6⟩ => ?_⟩
    rw [e2] at e3
    cases e3
    subst e4; subst e6
    exact pair_new rm e5 (keyD_rep _) rv
theorem sim_itemsT {r : Nat} {a : Addr} {o : Obj} {vs : List (List Key × V)} {ds : List (List Key × D)} (ha : H a = some (.frz o (.dT vs))) (l : RepK p ι H vs ds) : SimI p ι H (ItiT a o vs) (.itemsT r ds) := fun ι1 H1 M1 i m rm => by
  unfold nextI
  dsimp only
  have ha1 := m.frz _ _ _ ha
  have l := l.mono m
  have hl := l.length
  cases e : ds[i]? with
  | none =>
    have := List.getElem?_eq_none_iff.mp e
    exact ⟨ha1, by omega⟩
  | some kv =>
    obtain ⟨v, e2, rv⟩ := l.at_ e
    have hlt := (List.getElem?_eq_some_iff.mp e).1
    refine ⟨⟨ha1, by omega⟩, fun x H' ⟨T, q, k, v', e3, e4, e5, e6, e7⟩ => ?_⟩
    rw [e2] at e3
    cases e3
    subst e4; subst e7
    exact pair_new rm e5 (.tup e6 (keysD_rep _)) rv
end
section
variable {X : Cx} {W : WX} {e : Expr} {da : ED} {σ : L2.St} {H : Hp} {apos cpos tpos : Pos} {elts : List Expr} {kk : Nat}
def itemsOf' [DecidableEq Str] [DecidableEq Key] [DecidableEq String] [(α : Type) → GetElem? (List α) Nat α fun l i => i < l.length] [(α : Type) → Append (List α)] [(i j : Int) → Decidable (i < j)] [(i j : Int) → Decidable (i ≤ j)] (d : D) (M : Store) : R IT := match d with
  | .ref r => (match M[r]? with
    | some (.lkK kvs) => .ok (.itemsK r kvs) M
    | some (.lkT kvs) => .ok (.itemsT r kvs) M
    | _ => .no)
  | _ => .no
def isLkT [DecidableEq Str] [DecidableEq Key] [DecidableEq String] [(α : Type) → GetElem? (List α) Nat α fun l i => i < l.length] [(α : Type) → Append (List α)] [(i j : Int) → Decidable (i < j)] [(i j : Int) → Decidable (i ≤ j)] (M : Store) : D → Bool
  | .ref r => (match M[r]? with
    | some (.lkT _) => true
    | _ => false)
  | _ => false
theorem qi_items (he : PE X e (rE X W da)) (hbase : attributeBase e "items" X.env (eval e X.env) = eval e X.env) (hline : (apos.endLine == cpos.line) = true) :
    PI X (.Tuple elts kk tpos) (.Call (.Attribute e "items" apos) [] [] cpos) (rI X W fun ρ M => (da ρ M).bind itemsOf') := PI.three (pi_items he hbase hline) (pi_itT he hbase hline) (pi_itT he hbase hline) fun σ H R ⟨ι, ρ, M, rm, re, q⟩ => by
  have q2 := Post.bind (rel := Rep (pw X)) q
  cases ed : da ρ M with
  | no => rw [ed] at q2; exact q2.elim
  | ex C fs M1 => rw [ed] at q2; exact .inl ⟨ι, ρ, M, rm, re, by rw [ed]; exact q2⟩
  | ok d M1 =>
    dsimp only at q
    rw [ed] at q
    replace q : Post (pw X) ι H (SimI (pw X)) R (WE W σ) (itemsOf' d M1) := q
    unfold itemsOf' at q
    split at q
    · rename_i r
      split at q
      · rename_i kvs hk
        refine .inl ⟨ι, ρ, M, rm, re, ?_⟩
        rw [ed]
        intro ι1 H1 v m1 rm1 rv
        cases rv with
        | @ref a _ hi =>
        obtain ⟨vs, o, ha, l⟩ := rm1.at_ r a _ hi hk
        exact ⟨a, o, vs, rfl, ha, Post.mono q m1 _ _ _ .refl rm1 (sim_itemsK ha l)⟩
      · rename_i kvs hk
        refine .inr (.inl ⟨ι, ρ, M, rm, re, ?_⟩)
        rw [ed]
        intro ι1 H1 v m1 rm1 rv
        cases rv with
        | @ref a _ hi =>
        obtain ⟨vs, o, ha, l⟩ := rm1.at_ r a _ hi hk
        exact ⟨a, o, vs, rfl, ha, Post.mono q m1 _ _ _ .refl rm1 (sim_itemsT ha l)⟩
      · exact q.elim
    · exact q.elim
end
end Ev
set_option Elab.async false
set_option linter.all false
set_option maxRecDepth 100000
set_option maxHeartbeats 4000000
/-! zip of any two of list, tuple, text. -/
namespace Ev
open PySem PySem.Spec PyProof.Rows L2

/-- a source of a zip, as data -/
inductive ZS where
  | lst (r : Nat) | seq (ds : List D) | txt (z : Str)
/-- none: no claim; some none: at its end -/
def zsAt [DecidableEq Str] [DecidableEq Key] [DecidableEq String] [(α : Type) → GetElem? (List α) Nat α fun l i => i < l.length] [(α : Type) → Append (List α)] [(i j : Int) → Decidable (i < j)] [(i j : Int) → Decidable (i ≤ j)] (z : ZS) (i : Nat) (M : Store) : Option (Option D) := match z with
  | .lst r => (match lstRd M r with
    | some xs => if i ≤ xs.length then some xs[i]? else none
    | none => none)
  | .seq xs => if i ≤ xs.length then some xs[i]? else none
  | .txt x => if i ≤ x.cps.size then some ((x.cps[i]?).map fun c => .str ⟨#[c]⟩) else none
inductive Sq where
  | lst (a : Addr) | tup (a : Addr) | txt (z : Str)
def Sq.at_ [DecidableEq Str] [DecidableEq Key] [DecidableEq String] [(α : Type) → GetElem? (List α) Nat α fun l i => i < l.length] [(α : Type) → Append (List α)] [(i j : Int) → Decidable (i < j)] [(i j : Int) → Decidable (i ≤ j)] (K : PySem.W.Frag) : Sq → Nat → Hp → V → Prop
  | .lst a, i, H, x => ∃ xs, SqL K H a xs ∧ xs[i]? = some x
  | .tup a, i, H, x => ∃ xs, SqT K H a xs ∧ xs[i]? = some x
  | .txt z, i, _, x => ∃ c, z.cps[i]? = some c ∧ x = .str ⟨#[c]⟩
def Sq.all_ [DecidableEq Str] [DecidableEq Key] [DecidableEq String] [(α : Type) → GetElem? (List α) Nat α fun l i => i < l.length] [(α : Type) → Append (List α)] [(i j : Int) → Decidable (i < j)] [(i j : Int) → Decidable (i ≤ j)] (K : PySem.W.Frag) : Sq → Nat → Hp → V → Prop
  | .lst a, i, H, x => ∀ xs, SqL K H a xs → xs[i]? = some x
  | .tup a, i, H, x => ∀ xs, SqT K H a xs → xs[i]? = some x
  | .txt z, i, _, x => ∃ c, z.cps[i]? = some c ∧ x = .str ⟨#[c]⟩
def Sq.ends [DecidableEq Str] [DecidableEq Key] [DecidableEq String] [(α : Type) → GetElem? (List α) Nat α fun l i => i < l.length] [(α : Type) → Append (List α)] [(i j : Int) → Decidable (i < j)] [(i j : Int) → Decidable (i ≤ j)] (K : PySem.W.Frag) : Sq → Nat → Hp → Prop
  | .lst a, i, H => ∃ xs : List V, SqL K H a xs ∧ xs.length = i
  | .tup a, i, H => ∃ xs : List V, SqT K H a xs ∧ xs.length = i
  | .txt z, i, _ => z.cps.size = i
def Sq.fp [DecidableEq Str] [DecidableEq Key] [DecidableEq String] [(α : Type) → GetElem? (List α) Nat α fun l i => i < l.length] [(α : Type) → Append (List α)] [(i j : Int) → Decidable (i < j)] [(i j : Int) → Decidable (i ≤ j)] : Sq → List Addr
  | .lst a => [a]
  | .tup a => [a]
  | .txt _ => []
def Sq.iter [DecidableEq Str] [DecidableEq Key] [DecidableEq String] [(α : Type) → GetElem? (List α) Nat α fun l i => i < l.length] [(α : Type) → Append (List α)] [(i j : Int) → Decidable (i < j)] [(i j : Int) → Decidable (i ≤ j)] (it : Addr) (i : Nat) (h : Heap) : Sq → Prop
  | .lst a => h.IsListIter it a i
  | .tup a => h.IsTupleIter it a i
  | .txt z => ∃ t, h.IsStrIter it (strIterType z) z t i
theorem Sq.iter_at {q : Sq} {it : Addr} {i : Nat} {h h' : Heap} (x : q.iter it i h) (k : ∀ o, h.get? it = some o → h'.get? it = some o) : q.iter it i h' := by
  cases q with
  | lst a => exact Heap.IsListIter.at x k
  | tup a => exact Heap.IsTupleIter.at x k
  | txt z => obtain ⟨t, o, ho, r⟩ := x; exact ⟨t, o, k o ho, r⟩
theorem Sq.iter_obj {q : Sq} {it : Addr} {i : Nat} {h : Heap} (x : q.iter it i h) : ∃ o, h.get? it = some o ∧ ∀ v, o.data ≠ .cell v := by
  cases q with
  | lst a => obtain ⟨o, ho, _, d⟩ := x; exact ⟨o, ho, fun v z => by rw [d] at z; cases z⟩
  | tup a => obtain ⟨o, ho, _, d⟩ := x; exact ⟨o, ho, fun v z => by rw [d] at z; cases z⟩
  | txt z => obtain ⟨t, o, ho, _, d⟩ := x; exact ⟨o, ho, fun v z => by rw [d] at z; cases z⟩
section
variable {X : Cx} {pins : List (Addr × Obj)} {σ : L2.St} {H : Hp} {s : Shared}
theorem sq_draws (I : Inv X pins σ H s) (hh : X.A.handled = none) (q : Sq) {it : Addr} {i : Nat} (hv : (∃ x, q.at_ X.K i H x) ∨ q.ends X.K i H) (hne : ∀ a ∈ q.fp, a ≠ it) (hit : q.iter it i s.heap) :
    ∃ n P St, Draws X.prog X.w X.A.in1 it (it :: q.fp) n P St ∧ St i s.heap ∧ (∀ j h, St j h → q.iter it j h) ∧ i ≤ n ∧ ((∃ x, q.at_ X.K i H x) → i < n) ∧ (q.ends X.K i H → i = n) ∧ ∀ v, P i v → ∃ x, RelV x v ∧ q.at_ X.K i H x := by
  cases q with
  | lst a =>
    obtain ⟨xs, hq, hle⟩ : ∃ xs, SqL X.K H a xs ∧ i ≤ xs.length := by
      rcases hv with ⟨x, xs, hq, hx⟩ | ⟨xs, hq, hx⟩
      · exact ⟨xs, hq, Nat.le_of_lt (List.getElem?_eq_some_iff.mp hx).1⟩
      · exact ⟨xs, hq, Nat.le_of_eq hx.symm⟩
    obtain ⟨its, rv, p, _⟩ := I.list hq
    have hl := rv.length
    refine ⟨_, _, _, Draws.list (A := X.A.in1) hh it a (hne a (by simp [Sq.fp])) its.toArray, ⟨hit, p.isList⟩, fun j h st => st.1, by rw [List.size_toArray, ← hl]; exact hle, fun ⟨x, ys, hy, hx⟩ => ?_, fun ⟨ys, hy, hx⟩ => ?_, fun v hp => ?_⟩
    · rw [I.list_inj hy hq] at hx
      rw [List.size_toArray, ← hl]
      exact (List.getElem?_eq_some_iff.mp hx).1
    · rw [I.list_inj hy hq] at hx
      rw [List.size_toArray, ← hl, hx]
    · have hp : its[i]? = some v := by simpa using hp
      have hlt : i < xs.length := by rw [hl]; exact (List.getElem?_eq_some_iff.mp hp).1
      obtain ⟨u, hu, ru⟩ := rv.get (List.getElem?_eq_getElem hlt)
      rw [hp] at hu
      cases hu
      exact ⟨_, ru, xs, hq, List.getElem?_eq_getElem hlt⟩
  | tup a =>
    obtain ⟨xs, hq, hle⟩ : ∃ xs, SqT X.K H a xs ∧ i ≤ xs.length := by
      rcases hv with ⟨x, xs, hq, hx⟩ | ⟨xs, hq, hx⟩
      · exact ⟨xs, hq, Nat.le_of_lt (List.getElem?_eq_some_iff.mp hx).1⟩
      · exact ⟨xs, hq, Nat.le_of_eq hx.symm⟩
    obtain ⟨its, rv, p, _⟩ := I.tuple hq
    have hl := rv.length
    refine ⟨_, _, _, Draws.tuple (A := X.A.in1) hh it a (hne a (by simp [Sq.fp])) its.toArray, ⟨hit, p⟩, fun j h st => st.1, by rw [List.size_toArray, ← hl]; exact hle, fun ⟨x, ys, hy, hx⟩ => ?_, fun ⟨ys, hy, hx⟩ => ?_, fun v hp => ?_⟩
    · rw [I.tuple_inj hy hq] at hx
      rw [List.size_toArray, ← hl]
      exact (List.getElem?_eq_some_iff.mp hx).1
    · rw [I.tuple_inj hy hq] at hx
      rw [List.size_toArray, ← hl, hx]
    · have hp : its[i]? = some v := by simpa using hp
      have hlt : i < xs.length := by rw [hl]; exact (List.getElem?_eq_some_iff.mp hp).1
      obtain ⟨u, hu, ru⟩ := rv.get (List.getElem?_eq_getElem hlt)
      rw [hp] at hu
      cases hu
      exact ⟨_, ru, xs, hq, List.getElem?_eq_getElem hlt⟩
  | txt z =>
    obtain ⟨t, st⟩ := hit
    have hle : i ≤ z.cps.size := by
      rcases hv with ⟨x, c, hc, _⟩ | hx
      · exact Nat.le_of_lt (Array.getElem?_eq_some_iff.mp hc).1
      · exact Nat.le_of_eq (show z.cps.size = i from hx).symm
    exact ⟨_, _, _, Draws.text (A := X.A.in1) hh it z t, st, fun j h st => ⟨t, st⟩, hle, fun ⟨x, c, hc, _⟩ => (Array.getElem?_eq_some_iff.mp hc).1, fun hx => (show z.cps.size = i from hx).symm, fun v ⟨c, u, hc, e⟩ => ⟨.str ⟨#[c]⟩, ⟨u, e⟩, c, hc, rfl⟩⟩
theorem at_all (I : Inv X pins σ H s) {q : Sq} {i : Nat} {x : V} (h : q.at_ X.K i H x) : q.all_ X.K i H x := by
  cases q with
  | lst a => obtain ⟨xs, h1, h2⟩ := h; exact fun ys hy => by rw [I.list_inj hy h1]; exact h2
  | tup a => obtain ⟨xs, h1, h2⟩ := h; exact fun ys hy => by rw [I.tuple_inj hy h1]; exact h2
  | txt z => exact h
/-- the items of both, in new pairs -/
def ItZ [DecidableEq Str] [DecidableEq Key] [DecidableEq String] [(α : Type) → GetElem? (List α) Nat α fun l i => i < l.length] [(α : Type) → Append (List α)] [(i j : Int) → Decidable (i < j)] [(i j : Int) → Decidable (i ≤ j)] (K : PySem.W.Frag) (q1 q2 : Sq) : It :=
  ⟨fun i H => (∃ x, q1.at_ K i H x) ∧ ∃ y, q2.at_ K i H y, fun i H v H' => ∃ T x y, v = .ref T ∧ H T = none ∧ H' = upd H T (.tup [x, y]) ∧ q1.all_ K i H x ∧ q2.all_ K i H y,
    fun i H => ((∃ x, q1.at_ K i H x) ∨ q1.ends K i H) ∧ ((∃ y, q2.at_ K i H y) ∨ q2.ends K i H) ∧ (q1.ends K i H ∨ q2.ends K i H)⟩
theorem turn_Z {P : Program} {w : World} {K : PySem.W.Frag} {elts : List Expr} {kk : Nat} {tpos : Pos} {q1 q2 : Sq} {z TI TO i1 i2 : Addr} (S : ZipSep2 z TI TO i1 i2 (i1 :: q1.fp) (i2 :: q2.fp)) (n1 : ∀ a ∈ q1.fp, a ≠ i1) (n2 : ∀ a ∈ q2.fp, a ≠ i2) :
    Turn P w K (.Tuple elts kk tpos) (ItZ K q1 q2) [z, TI, TO, i1, i2] z (fun i h => IsZip h z TI TO .none ∧ IsTupOf2 h TI (.ref i1) (.ref i2) ∧ (∃ x y, IsTupOf2 h TO x y) ∧ q1.iter i1 i h ∧ q2.iter i2 i h) where
  mem := by simp
  obj := fun i h ⟨hz, hTI, ⟨x, y, hTO⟩, h1, h2⟩ c hc => by
    have e' : c = z ∨ c = TI ∨ c = TO ∨ c = i1 ∨ c = i2 := by simpa using hc
    rcases e' with rfl | rfl | rfl | rfl | rfl
    · exact ⟨_, hz, fun v q => nomatch q⟩
    · exact ⟨_, hTI, fun v q => nomatch q⟩
    · exact ⟨_, hTO, fun v q => nomatch q⟩
    · exact Sq.iter_obj h1
    · exact Sq.iter_obj h2
  keep := fun i h h' ⟨hz, hTI, ⟨x, y, hTO⟩, h1, h2⟩ k => ⟨k z (by simp) _ hz, k TI (by simp) _ hTI, ⟨x, y, k TO (by simp) _ hTO⟩, Sq.iter_at h1 fun o q => k i1 (by simp) o q, Sq.iter_at h2 fun o q => k i2 (by simp) o q⟩
  item := by
    intro X hP hw hK hc i pins s σ H E I hf ⟨hz, hTI, ⟨x0, y0, hTO⟩, h1, h2⟩ ⟨g1, g2⟩
    subst hP hw hK
    obtain ⟨m1, P1, St1, D1, st1, k1, _, lt1, _, r1⟩ := sq_draws I (I.ok.hd hc) q1 (.inl g1) n1 h1
    obtain ⟨m2, P2, St2, D2, st2, k2, _, lt2, _, r2⟩ := sq_draws I (I.ok.hd hc) q2 (.inl g2) n2 h2
    have hzl : z < s.heap.objs.size := Heap.lt_size hz
    refine wpAny_pyNext_zipD2_item S D1 D2 hz hTI hTO st1 st2 (lt1 g1) (lt2 g2) fun u1 u2 h' tk p1 p2 z' TO' s1' s2' hT hsz hk => ?_
    obtain ⟨x, rx, ax⟩ := r1 u1 p1
    obtain ⟨y, ry, ay⟩ := r2 u2 p2
    refine ⟨_, rfl, wpAny_letOwnedTupleGo_zip (s := { s with heap := h', toks := tk }) z' fun h'' z'' sb => ?_⟩
    have new : ObjOk X.prog X.w (upd H s.heap.objs.size (.tup [x, y])) h'' s.heap.objs.size (.tup [x, y]) :=
      ⟨by show 2 ≤ sizeLine; decide, [u1, u2], .cons rx (.cons ry .nil), ⟨_, (sb.2 _ (Nat.ne_of_gt hzl)).trans hT, rfl, _, rfl⟩⟩
    have I1 : Inv X pins σ (upd H s.heap.objs.size (.tup [x, y])) { s with heap := h'', toks := tk } :=
      I.turnedNew (t' := tk) (ch := [z, TI, TO, i1, i2]) (fun c o hb q => (sb.2 c (fun e => hb (by simp [e]))).trans (hk c o (fun e => hb (by simp [e])) (fun e => hb (by simp [e])) (fun e => hb (by simp [e])) (fun e => hb (by simp [e])) q)) hf (Nat.le_refl _) new
    refine ⟨.ref s.heap.objs.size, _, I1, rfl, ⟨_, x, y, rfl, I.hok.fresh (Nat.le_refl _), rfl, at_all I ax, at_all I ay⟩, ⟨z'', ?_, ⟨u1, u2, (sb.2 _ S.TOz).trans TO'⟩, ?_, ?_⟩, fun c hcm => ?_⟩
    · exact (sb.2 _ S.TIz).trans (hk _ _ S.TIz S.TITO S.TIi1 S.TIi2 hTI)
    · exact Sq.iter_at (k1 _ _ s1') fun o e => (sb.2 _ S.zi1.symm).trans e
    · exact Sq.iter_at (k2 _ _ s2') fun o e => (sb.2 _ S.zi2.symm).trans e
    · have hlt : c < s.heap.objs.size := by
        have e' : c = z ∨ c = TI ∨ c = TO ∨ c = i1 ∨ c = i2 := by simpa using hcm
        rcases e' with rfl | rfl | rfl | rfl | rfl
        · exact hzl
        · exact Heap.lt_size hTI
        · exact Heap.lt_size hTO
        · obtain ⟨_, e, _⟩ := Sq.iter_obj h1; exact Heap.lt_size e
        · obtain ⟨_, e, _⟩ := Sq.iter_obj h2; exact Heap.lt_size e
      rw [upd_ne (Nat.ne_of_lt hlt)]
      exact (hf c hcm).1
  done := by
    intro X hP hw hK hc i pins s σ H E I hf ⟨hz, hTI, ⟨x0, y0, hTO⟩, h1, h2⟩ ⟨g1, g2, g3⟩
    subst hP hw hK
    obtain ⟨m1, P1, St1, D1, st1, k1, le1, _, e1, _⟩ := sq_draws I (I.ok.hd hc) q1 g1 n1 h1
    obtain ⟨m2, P2, St2, D2, st2, k2, le2, _, e2, _⟩ := sq_draws I (I.ok.hd hc) q2 g2 n2 h2
    exact wpAny_pyNext_zipD2_end S D1 D2 hz hTI hTO st1 st2 le1 le2 (g3.elim (fun h => .inl (e1 h)) fun h => .inr (e2 h)) fun h' tk hk => ⟨rfl, I.turnedL (t' := tk) (ch := [z, TI, TO, i1, i2]) (fun c o hb q =>
      hk c o (fun e => hb (by simp [e])) (fun e => hb (by simp [e])) (fun e => hb (by simp [e])) (fun e => hb (by simp [e])) q) hf⟩
  self := fun A i s Q E st h => wpAny_pyIter_zip st.1 h
/-- what a value is, as a source -/
def Sq.of [DecidableEq Str] [DecidableEq Key] [DecidableEq String] [(α : Type) → GetElem? (List α) Nat α fun l i => i < l.length] [(α : Type) → Append (List α)] [(i j : Int) → Decidable (i < j)] [(i j : Int) → Decidable (i ≤ j)] (K : PySem.W.Frag) (H : Hp) (v : V) : Sq → Prop
  | .lst a => v = .ref a ∧ ∃ xs, SqL K H a xs
  | .tup a => v = .ref a ∧ ∃ xs, SqT K H a xs
  | .txt z => v = .str z
theorem sq_begins (I : Inv X pins σ H s) {v : V} {u : Value} {q : Sq} (r : RelV v u) (h : q.of X.K H v) : ∃ (o : Obj) (Hp : Heap → Prop), Begins u o Hp ∧ Hp s.heap ∧ (∀ h it, h.get? it = some o → q.iter it 0 h) ∧ ∀ a ∈ q.fp, a < s.heap.objs.size := by
  cases q with
  | lst a =>
    obtain ⟨rfl, xs, hq⟩ := h
    obtain rfl : u = Value.ref a := r
    obtain ⟨its, rv, p, _⟩ := I.list hq
    exact ⟨_, _, begins_list a its.toArray, p.isList, fun h it e => ⟨_, e, rfl, rfl⟩, fun b hb => by
      obtain rfl : b = a := by simpa [Sq.fp] using hb
      exact p.lt⟩
  | tup a =>
    obtain ⟨rfl, xs, hq⟩ := h
    obtain rfl : u = Value.ref a := r
    obtain ⟨its, rv, p, _⟩ := I.tuple hq
    exact ⟨_, _, begins_tuple a its.toArray, p, fun h it e => ⟨_, e, rfl, rfl⟩, fun b hb => by
      obtain rfl : b = a := by simpa [Sq.fp] using hb
      obtain ⟨o, ho, _⟩ := p
      exact Heap.lt_size ho⟩
  | txt z =>
    have h : v = .str z := h
    subst h
    obtain ⟨t, rfl⟩ := r
    exact ⟨_, _, begins_text z t, trivial, fun h it e => ⟨t, _, e, rfl, rfl⟩, fun b hb => by cases hb⟩
def iZ [DecidableEq Str] [DecidableEq Key] [DecidableEq String] [(α : Type) → GetElem? (List α) Nat α fun l i => i < l.length] [(α : Type) → Append (List α)] [(i j : Int) → Decidable (i < j)] [(i j : Int) → Decidable (i ≤ j)] (K : PySem.W.Frag) (ta : TA) : TI := fun σ H R => ta σ H fun vs H1 => ∃ v1 v2 q1 q2, vs = [v1, v2] ∧ Sq.of K H1 v1 q1 ∧ Sq.of K H1 v2 q2 ∧ R (ItZ K q1 q2) H1
theorem pi_Z {e e2 : Expr} {ta : TA} {p pos tpos : Pos} {elts : List Expr} {kk : Nat} (hg : Gl X "zip") (hm : X.mg "zip" = none) (ha : PA X [e, e2] ta) (hs : starEach [e, e2] X.env = (false, eval e X.env) :: starEach [e2] X.env) (hpl : (backTo pos (starEach [e2] X.env)).any (·.1) = false) :
    PI X (.Tuple elts kk tpos) (.Call (.Name "zip" p) [e, e2] [] pos) (iZ X.K ta) := by
  refine ⟨fun pins s σ H R I h => Call_ (ld_blt I hg hm PyProof.Rows.boot_zip (PyProof.Rows.callWith_type1 (thn (ha.run pos pins s σ H _ I h) fun us s1 ⟨vs, H1, I1, r1, v1, v2, q1, q2, ev, o1, o2, q⟩ => ?_) hs hpl))⟩
  subst ev
  cases r1 with
  | @cons _ u1 _ us1 ru1 rr =>
  cases rr with
  | @cons _ u2 _ us2 ru2 rr =>
  cases rr
  obtain ⟨ob1, P1, B1, p1, t1, l1⟩ := sq_begins I1 ru1 o1
  obtain ⟨ob2, P2, B2, p2, t2, l2⟩ := sq_begins I1 ru2 o2
  refine zip_begins2 B1 B2 p1 p2 fun h' hz hTI hTO g1 g2 hsz hk => wpAny_pyIter_zip hz ?_
  have I2 : Inv X pins σ H1 { s1 with heap := h' } := I1.kept (t' := s1.toks) hk
  have ne1 : ∀ a ∈ q1.fp, ∀ k, a ≠ s1.heap.objs.size + k := fun a ha k e => absurd (l1 a ha) (by rw [e]; exact Nat.not_lt_of_le (Nat.le_add_right _ _))
  have ne2 : ∀ a ∈ q2.fp, ∀ k, a ≠ s1.heap.objs.size + k := fun a ha k e => absurd (l2 a ha) (by rw [e]; exact Nat.not_lt_of_le (Nat.le_add_right _ _))
  have df : ∀ {j k : Nat}, j ≠ k → s1.heap.objs.size + j ≠ s1.heap.objs.size + k := fun {j k} h e => h (Nat.add_left_cancel e)
  have S : ZipSep2 (s1.heap.objs.size + 4) (s1.heap.objs.size + 2) (s1.heap.objs.size + 3) (s1.heap.objs.size + 0) (s1.heap.objs.size + 1) ((s1.heap.objs.size + 0) :: q1.fp) ((s1.heap.objs.size + 1) :: q2.fp) :=
    { TIz := df (by decide), TOz := df (by decide), TITO := df (by decide), TIi1 := df (by decide), mem1 := List.mem_cons_self .., zf1 := fun h => (List.mem_cons.mp h).elim (df (by decide)) fun h => ne1 _ h 4 rfl, Tf1 := fun h => (List.mem_cons.mp h).elim (df (by decide)) fun h => ne1 _ h 3 rfl,
      TIi2 := df (by decide), mem2 := List.mem_cons_self .., zf2 := fun h => (List.mem_cons.mp h).elim (df (by decide)) fun h => ne2 _ h 4 rfl, Tf2 := fun h => (List.mem_cons.mp h).elim (df (by decide)) fun h => ne2 _ h 3 rfl,
      sep1_2 := fun h => (List.mem_cons.mp h).elim (df (by decide)) fun h => ne2 _ h 0 rfl, sep2_1 := fun h => (List.mem_cons.mp h).elim (df (by decide)) fun h => ne1 _ h 1 rfl }
  refine ⟨s1.heap.objs.size + 4, [s1.heap.objs.size + 4, s1.heap.objs.size + 2, s1.heap.objs.size + 3, s1.heap.objs.size + 0, s1.heap.objs.size + 1], _, _, H1, rfl, I2, turn_Z S (fun a ha => ne1 a ha 0) (fun a ha => ne2 a ha 1), ⟨hz, hTI, ⟨_, _, hTO⟩, t1 _ _ g1, t2 _ _ g2⟩, fun c hcm => ?_, q⟩
  have hle : s1.heap.objs.size ≤ c := by
    have e' : c = s1.heap.objs.size + 4 ∨ c = s1.heap.objs.size + 2 ∨ c = s1.heap.objs.size + 3 ∨ c = s1.heap.objs.size ∨ c = s1.heap.objs.size + 1 := by simpa using hcm
    rcases e' with z | z | z | z | z
    · rw [z]; exact Nat.le_add_right _ _
    · rw [z]; exact Nat.le_add_right _ _
    · rw [z]; exact Nat.le_add_right _ _
    · rw [z]; exact Nat.le_refl _
    · rw [z]; exact Nat.le_add_right _ _
  exact I1.fpOk hle (I1.hok.fresh hle)
end
/-! ### by the evaluator -/
def SimQ [DecidableEq Str] [DecidableEq Key] [DecidableEq String] [(α : Type) → GetElem? (List α) Nat α fun l i => i < l.length] [(α : Type) → Append (List α)] [(i j : Int) → Decidable (i < j)] [(i j : Int) → Decidable (i ≤ j)] (p : Pw) (ι : List Addr) (H : Hp) : Sq → ZS → Prop
  | .lst a, .lst r => ι[r]? = some a
  | .tup a, .seq ds => ∃ vs, (H a = some (.tup vs) ∨ KTup p.K a vs) ∧ RepL p ι H vs ds
  | .txt z, .txt y => z = y
  | _, _ => False
section
variable {p : Pw} {ι ι' : List Addr} {H H' : Hp} {M : Store}
theorem SimQ.mono {q : Sq} {d : ZS} (h : SimQ p ι H q d) (m : Mono ι H ι' H') : SimQ p ι' H' q d := by
  cases q <;> cases d <;> first | exact h.elim | exact m.at_ h | exact h | (obtain ⟨vs, hv, l⟩ := h; exact ⟨vs, hv.imp (m.tup _ _) id, l.mono m⟩)
theorem zs_at {q : Sq} {d : ZS} {i : Nat} {o : Option D} (rm : RepM p ι H M) (h : SimQ p ι H q d) (e : zsAt d i M = some o) :
    (∀ x, o = some x → (∃ v, q.at_ p.K i H v) ∧ ∀ v, q.all_ p.K i H v → Rep p ι H v x) ∧ (o = none → q.ends p.K i H) := by
  cases q <;> cases d <;> first | exact h.elim | skip
  · rename_i a r
    have h : ι[r]? = some a := h
    unfold zsAt at e
    dsimp only at e
    split at e
    · rename_i xs ex
      obtain ⟨a', vs, e1, hq, l⟩ := lstRd_at rm (.ref h) ex
      cases e1
      split at e
      · rename_i hle
        cases e
        refine ⟨fun x hx => ?_, fun hx => ⟨vs, hq _, ?_⟩⟩
        · obtain ⟨v, hv, rv⟩ := l.get hx
          exact ⟨⟨v, vs, hq _, hv⟩, fun w hw => by
            have := hw vs (hq _)
            rw [hv] at this
            cases this
            exact rv⟩
        · have := List.getElem?_eq_none_iff.mp hx
          rw [l.length]
          omega
      · cases e
    · cases e
  · rename_i a xs
    obtain ⟨vs, hv0, l⟩ := h
    unfold zsAt at e
    dsimp only at e
    split at e
    · rename_i hle
      cases e
      refine ⟨fun x hx => ?_, fun hx => ⟨vs, SqT.now hv0, ?_⟩⟩
      · obtain ⟨v, hv, rv⟩ := l.get hx
        exact ⟨⟨v, vs, SqT.now hv0, hv⟩, fun w hw => by
          have := hw vs (SqT.now hv0)
          rw [hv] at this
          cases this
          exact rv⟩
      · have := List.getElem?_eq_none_iff.mp hx
        rw [l.length]
        omega
    · cases e
  · rename_i z y
    have h : z = y := h
    subst h
    unfold zsAt at e
    dsimp only at e
    split at e
    · rename_i hle
      cases e
      refine ⟨fun x hx => ?_, fun hx => ?_⟩
      · obtain ⟨c, hc, ex⟩ := Option.map_eq_some_iff.mp hx
        subst ex
        exact ⟨⟨_, c, hc, rfl⟩, fun v ⟨c', hc', ev⟩ => by
          rw [hc] at hc'
          cases hc'
          subst ev
          exact .str _⟩
      · rw [Option.map_eq_none_iff] at hx
        have := Array.getElem?_eq_none_iff.mp hx
        show z.cps.size = i
        omega
    · cases e
theorem sim_Z {q1 q2 : Sq} {d1 d2 : ZS} (h1 : SimQ p ι H q1 d1) (h2 : SimQ p ι H q2 d2) : SimI p ι H (ItZ p.K q1 q2) (.zip (fun i M => zsAt d1 i M) fun i M => zsAt d2 i M) := fun ι1 H1 M1 i m rm => by
  unfold nextI
  dsimp only
  cases e1 : zsAt d1 i M1 with
  | none => trivial
  | some o1 =>
    cases e2 : zsAt d2 i M1 with
    | none => trivial
    | some o2 =>
      obtain ⟨a1, b1⟩ := zs_at rm (h1.mono m) e1
      obtain ⟨a2, b2⟩ := zs_at rm (h2.mono m) e2
      cases o1 with
      | none =>
        cases o2 with
        | none => exact ⟨.inr (b1 rfl), .inr (b2 rfl), .inl (b1 rfl)⟩
        | some y => exact ⟨.inr (b1 rfl), .inl (a2 y rfl).1, .inl (b1 rfl)⟩
      | some x =>
        cases o2 with
        | none => exact ⟨.inl (a1 x rfl).1, .inr (b2 rfl), .inr (b2 rfl)⟩
        | some y =>
          refine ⟨⟨(a1 x rfl).1, (a2 y rfl).1⟩, fun v H' ⟨T, xv, yv, e3, e4, e5, c1, c2⟩ => ?_⟩
          subst e3; subst e5
          exact pair_new rm e4 ((a1 x rfl).2 _ c1) ((a2 y rfl).2 _ c2)
def zsOf [DecidableEq Str] [DecidableEq Key] [DecidableEq String] [(α : Type) → GetElem? (List α) Nat α fun l i => i < l.length] [(α : Type) → Append (List α)] [(i j : Int) → Decidable (i < j)] [(i j : Int) → Decidable (i ≤ j)] (M : Store) : D → Option ZS
  | .ref r => if (lstRd M r).isSome then some (.lst r) else none
  | .tup xs => some (.seq xs)
  | .kt xs => some (.seq xs)
  | .str z => some (.txt z)
  | _ => none
theorem zs_of {v : V} {d : D} {z : ZS} (rm : RepM p ι H M) (r : Rep p ι H v d) (e : zsOf M d = some z) : ∃ q : Sq, q.of p.K H v ∧ SimQ p ι H q z := by
  cases r with
  | str x => cases e; exact ⟨.txt x, rfl, rfl⟩
  | tup h l => cases e; exact ⟨.tup _, ⟨rfl, _, SqT.now (.inl h)⟩, _, .inl h, l⟩
  | kt h l => cases e; exact ⟨.tup _, ⟨rfl, _, h.sq⟩, _, .inr h, l⟩
  | @ref a r hi =>
    unfold zsOf at e
    dsimp only at e
    split at e
    · rename_i hs
      cases e
      obtain ⟨xs, ex⟩ := isSome_some hs
      obtain ⟨a', vs, e1, hq, l⟩ := lstRd_at rm (.ref hi) ex
      cases e1
      exact ⟨.lst _, ⟨rfl, vs, hq _⟩, hi⟩
    · cases e
  | _ => cases e
def zip2Of [DecidableEq Str] [DecidableEq Key] [DecidableEq String] [(α : Type) → GetElem? (List α) Nat α fun l i => i < l.length] [(α : Type) → Append (List α)] [(i j : Int) → Decidable (i < j)] [(i j : Int) → Decidable (i ≤ j)] (ds : List D) (M : Store) : R IT := match ds with
  | [x, y] => (match zsOf M x, zsOf M y with
    | some a, some b => .ok (.zip (fun i M => zsAt a i M) fun i M => zsAt b i M) M
    | _, _ => .no)
  | _ => .no
end
section
variable {X : Cx} {W : WX} {e e2 : Expr} {dr : AD} {p pos tpos : Pos} {elts : List Expr} {kk : Nat}
theorem qi_zip2 (hg : Gl X "zip") (hm : X.mg "zip" = none) (ha : PA X [e, e2] (rA X W dr)) (hs : starEach [e, e2] X.env = (false, eval e X.env) :: starEach [e2] X.env) (hpl : (backTo pos (starEach [e2] X.env)).any (·.1) = false) :
    PI X (.Tuple elts kk tpos) (.Call (.Name "zip" p) [e, e2] [] pos) (rI X W (argI zip2Of dr)) :=
  (pi_Z hg hm ha hs hpl).imp fun σ H R ⟨ι, ρ, M, rm, re, q⟩ => ⟨ι, ρ, M, rm, re, (Post.bind q).imp fun vs H1 ⟨ι1, ds, M1, m1, rm1, rv, q1⟩ => by
    unfold zip2Of at q1
    split at q1
    · rename_i x y
      split at q1
      · rename_i za zb ea eb
        cases rv with
        | @cons v1 _ _ _ r1 l =>
        cases l with
        | @cons v2 _ _ _ r2 l =>
        cases l
        obtain ⟨qa, o1, s1⟩ := zs_of rm1 r1 ea
        obtain ⟨qb, o2, s2⟩ := zs_of rm1 r2 eb
        exact ⟨v1, v2, qa, qb, rfl, o1, o2, q1 _ _ _ .refl rm1 (sim_Z s1 s2)⟩
      · exact q1.elim
    · exact q1.elim⟩
end
end Ev
set_option Elab.async false
set_option linter.all false
set_option maxRecDepth 100000
set_option maxHeartbeats 4000000
/-! The evaluator. -/
namespace Ev
open PySem PySem.Spec PyProof.Rows L2

/-- a frame of the text: the slots' names, the scope, a block's own scope -/
structure Cm where
  N : List Str
  sc : Scope
  fb : Option Scope
def Cm.fn [DecidableEq Str] [DecidableEq Key] [DecidableEq String] [(α : Type) → GetElem? (List α) Nat α fun l i => i < l.length] [(α : Type) → Append (List α)] [(i j : Int) → Decidable (i < j)] [(i j : Int) → Decidable (i ≤ j)] (C : Cm) (x : Str) : Bool := match C.fb with
  | none => true
  | some s => s.names.lookup x == some .cell
def Cm.blk [DecidableEq Str] [DecidableEq Key] [DecidableEq String] [(α : Type) → GetElem? (List α) Nat α fun l i => i < l.length] [(α : Type) → Append (List α)] [(i j : Int) → Decidable (i < j)] [(i j : Int) → Decidable (i ≤ j)] (C : Cm) (scope : Scope) : Cm := ⟨C.N, relS scope C.sc, some scope⟩
def idx [DecidableEq Str] [DecidableEq Key] [DecidableEq String] [(α : Type) → GetElem? (List α) Nat α fun l i => i < l.length] [(α : Type) → Append (List α)] [(i j : Int) → Decidable (i < j)] [(i j : Int) → Decidable (i ≤ j)] (x : Str) : List Str → Option Nat
  | [] => none
  | y :: r => if y = x then some 0 else (idx x r).map (· + 1)
theorem idx_at {x : Str} : ∀ {N : List Str} {i : Nat}, idx x N = some i → N[i]? = some x
  | y :: r, i, h => by
    unfold idx at h
    split at h
    · rename_i e
      cases h
      rw [e]
      rfl
    · obtain ⟨j, h1, h2⟩ := Option.map_eq_some_iff.mp h
      subst h2
      have := idx_at h1
      rw [List.getElem?_cons_succ]
      exact this
def ownOf [DecidableEq Str] [DecidableEq Key] [DecidableEq String] [(α : Type) → GetElem? (List α) Nat α fun l i => i < l.length] [(α : Type) → Append (List α)] [(i j : Int) → Decidable (i < j)] [(i j : Int) → Decidable (i ≤ j)] (N : List Str) (scope : Scope) : List (Str × Nat) := scope.names.filterMap fun y => match y.2 with
  | .local => (idx y.1 N).map (y.1, ·)
  | .cell => (idx y.1 N).map (y.1, ·)
  | _ => none

/-! ### names, built-ins -/
def BF.v [DecidableEq Str] [DecidableEq Key] [DecidableEq String] [(α : Type) → GetElem? (List α) Nat α fun l i => i < l.length] [(α : Type) → Append (List α)] [(i j : Int) → Decidable (i < j)] [(i j : Int) → Decidable (i ≤ j)] : BF → Value
  | .len => .builtin "len" | .abs => .builtin "abs" | .max => .builtin "max" | .min => .builtin "min" | .sum => .builtin "sum" | .divmod => .builtin "divmod"
  | .int => .type "int" | .str => .type "str" | .list => .type "list" | .tuple => .type "tuple" | .dict => .type "dict" | .isi => .builtin "isinstance" | .all => .builtin "all" | .any => .builtin "any" | .repr => .builtin "repr"
def BF.den [DecidableEq Str] [DecidableEq Key] [DecidableEq String] [(α : Type) → GetElem? (List α) Nat α fun l i => i < l.length] [(α : Type) → Append (List α)] [(i j : Int) → Decidable (i < j)] [(i j : Int) → Decidable (i ≤ j)] (g : Pg) : BF → List D → Store → R D
  | .len => lenD | .abs => absD | .max => maxD | .min => minD | .sum => sumD | .divmod => divmodD
  | .int => intD | .str => strD | .list => listD | .tuple => tupleD | .dict => dictD | .isi => isiD g | .all => allD | .any => anyD | .repr => reprD
inductive MF where
  | append | extend | pop | index | join
def MF.T [DecidableEq Str] [DecidableEq Key] [DecidableEq String] [(α : Type) → GetElem? (List α) Nat α fun l i => i < l.length] [(α : Type) → Append (List α)] [(i j : Int) → Decidable (i < j)] [(i j : Int) → Decidable (i ≤ j)] : MF → String
  | .append => "list" | .extend => "list" | .pop => "list" | .index => "tuple" | .join => "str"
def MF.den [DecidableEq Str] [DecidableEq Key] [DecidableEq String] [(α : Type) → GetElem? (List α) Nat α fun l i => i < l.length] [(α : Type) → Append (List α)] [(i j : Int) → Decidable (i < j)] [(i j : Int) → Decidable (i ≤ j)] : MF → D → List D → Store → R D
  | .append => appendD | .extend => extendD | .pop => popD | .index => tupIndexD | .join => joinD
def MF.name [DecidableEq Str] [DecidableEq Key] [DecidableEq String] [(α : Type) → GetElem? (List α) Nat α fun l i => i < l.length] [(α : Type) → Append (List α)] [(i j : Int) → Decidable (i < j)] [(i j : Int) → Decidable (i ≤ j)] : MF → Str
  | .append => "append" | .extend => "extend" | .pop => "pop" | .index => "index" | .join => "join"
def mfs [DecidableEq Str] [DecidableEq Key] [DecidableEq String] [(α : Type) → GetElem? (List α) Nat α fun l i => i < l.length] [(α : Type) → Append (List α)] [(i j : Int) → Decidable (i < j)] [(i j : Int) → Decidable (i ≤ j)] : List (Str × MF) := [("append", .append), ("extend", .extend), ("pop", .pop), ("index", .index), ("join", .join)]

def noD [DecidableEq Str] [DecidableEq Key] [DecidableEq String] [(α : Type) → GetElem? (List α) Nat α fun l i => i < l.length] [(α : Type) → Append (List α)] [(i j : Int) → Decidable (i < j)] [(i j : Int) → Decidable (i ≤ j)] : ED := fun _ _ => .no
def noT [DecidableEq Str] [DecidableEq Key] [DecidableEq String] [(α : Type) → GetElem? (List α) Nat α fun l i => i < l.length] [(α : Type) → Append (List α)] [(i j : Int) → Decidable (i < j)] [(i j : Int) → Decidable (i ≤ j)] : TD := fun _ _ => .no
def noI [DecidableEq Str] [DecidableEq Key] [DecidableEq String] [(α : Type) → GetElem? (List α) Nat α fun l i => i < l.length] [(α : Type) → Append (List α)] [(i j : Int) → Decidable (i < j)] [(i j : Int) → Decidable (i ≤ j)] : ID := fun _ _ => .no
def noS [DecidableEq Str] [DecidableEq Key] [DecidableEq String] [(α : Type) → GetElem? (List α) Nat α fun l i => i < l.length] [(α : Type) → Append (List α)] [(i j : Int) → Decidable (i < j)] [(i j : Int) → Decidable (i ≤ j)] : SD := fun _ _ => .no
def globB [DecidableEq Str] [DecidableEq Key] [DecidableEq String] [(α : Type) → GetElem? (List α) Nat α fun l i => i < l.length] [(α : Type) → Append (List α)] [(i j : Int) → Decidable (i < j)] [(i j : Int) → Decidable (i ≤ j)] (C : Cm) (x : Str) : Bool := C.sc.names.lookup x == some .globalImplicit && !(x == ("__debug__" : Str))
def localB [DecidableEq Str] [DecidableEq Key] [DecidableEq String] [(α : Type) → GetElem? (List α) Nat α fun l i => i < l.length] [(α : Type) → Append (List α)] [(i j : Int) → Decidable (i < j)] [(i j : Int) → Decidable (i ≤ j)] (C : Cm) (x : Str) : Bool := match C.sc.names.lookup x with
  | some .local => true
  | some .cell => true
  | some .free => true
  | _ => false
def nameD [DecidableEq Str] [DecidableEq Key] [DecidableEq String] [(α : Type) → GetElem? (List α) Nat α fun l i => i < l.length] [(α : Type) → Append (List α)] [(i j : Int) → Decidable (i < j)] [(i j : Int) → Decidable (i ≤ j)] (P : Px) (C : Cm) (x : Str) : ED :=
  if x == ("__debug__" : Str) || x == ("__classdict__" : Str) then noD
  else if localB C x then (match idx x C.N with
    | some i => dVar i
    | none => noD)
  else if globB C x then (match P.gf.g.val.lookup x with
    | some d => dC d
    | none => (match tys.lookup x with
      | some n => dC (.ty n)
      | none => noD))
  else noD
def constD [DecidableEq Str] [DecidableEq Key] [DecidableEq String] [(α : Type) → GetElem? (List α) Nat α fun l i => i < l.length] [(α : Type) → Append (List α)] [(i j : Int) → Decidable (i < j)] [(i j : Int) → Decidable (i ≤ j)] : Const → ED
  | .int i => dC (.int i)
  | .str x => dC (.str x)
  | .bool b => dC (.bl b)
  | .none => dC .non
  | _ => noD
def opB [DecidableEq Str] [DecidableEq Key] [DecidableEq String] [(α : Type) → GetElem? (List α) Nat α fun l i => i < l.length] [(α : Type) → Append (List α)] [(i j : Int) → Decidable (i < j)] [(i j : Int) → Decidable (i ≤ j)] : Operator → Option (D → D → Store → R D)
  | .Add => some addD
  | .Sub => some subD
  | .Mult => some mulD
  | .FloorDiv => some fdivD
  | .Mod => some modD
  | .Pow => some powD
  | _ => none
def opC [DecidableEq Str] [DecidableEq Key] [DecidableEq String] [(α : Type) → GetElem? (List α) Nat α fun l i => i < l.length] [(α : Type) → Append (List α)] [(i j : Int) → Decidable (i < j)] [(i j : Int) → Decidable (i ≤ j)] (g : Pg) : CmpOp → Option (D → D → Store → R D)
  | .Eq => some eqD
  | .NotEq => some neD
  | .Lt => some ltD
  | .LtE => some leD
  | .Gt => some gtD
  | .GtE => some geD
  | .Is => some isD
  | .IsNot => some isNotD
  | .In => some (inD g)
  | .NotIn => some (notInD g)
structure Ev where
  E : Cm → Expr → ED
  T : Cm → Expr → TD
  I : Cm → Expr → Expr → ID
  G : Cm → Expr → List Nat × GD
  S : Cm → Stmt → SD
def evA [DecidableEq Str] [DecidableEq Key] [DecidableEq String] [(α : Type) → GetElem? (List α) Nat α fun l i => i < l.length] [(α : Type) → Append (List α)] [(i j : Int) → Decidable (i < j)] [(i j : Int) → Decidable (i ≤ j)] (f : Expr → ED) : List Expr → AD
  | [] => dNil
  | e :: es => dCons (f e) (evA f es)
def evK [DecidableEq Str] [DecidableEq Key] [DecidableEq String] [(α : Type) → GetElem? (List α) Nat α fun l i => i < l.length] [(α : Type) → Append (List α)] [(i j : Int) → Decidable (i < j)] [(i j : Int) → Decidable (i ≤ j)] (f : Expr → ED) : List Keyword → AD
  | [] => dNil
  | ⟨_, e, _⟩ :: r => dCons (f e) (evK f r)
def evSs [DecidableEq Str] [DecidableEq Key] [DecidableEq String] [(α : Type) → GetElem? (List α) Nat α fun l i => i < l.length] [(α : Type) → Append (List α)] [(i j : Int) → Decidable (i < j)] [(i j : Int) → Decidable (i ≤ j)] (f : Stmt → SD) : List Stmt → SD
  | [] => skipS
  | s :: r => seqS (f s) (evSs f r)
def evGs [DecidableEq Str] [DecidableEq Key] [DecidableEq String] [(α : Type) → GetElem? (List α) Nat α fun l i => i < l.length] [(α : Type) → Append (List α)] [(i j : Int) → Decidable (i < j)] [(i j : Int) → Decidable (i ≤ j)] (f : Expr → List Nat × GD) : List Expr → List Nat × GDs
  | [] => ([], gsNil)
  | e :: es => ((f e).1 ++ (evGs f es).1, gsCons (f e).2 (evGs f es).2)
def noStars [DecidableEq Str] [DecidableEq Key] [DecidableEq String] [(α : Type) → GetElem? (List α) Nat α fun l i => i < l.length] [(α : Type) → Append (List α)] [(i j : Int) → Decidable (i < j)] [(i j : Int) → Decidable (i ≤ j)] (es : List Expr) : Bool := es.all fun e => !isStar e
def boolD [DecidableEq Str] [DecidableEq Key] [DecidableEq String] [(α : Type) → GetElem? (List α) Nat α fun l i => i < l.length] [(α : Type) → Append (List α)] [(i j : Int) → Decidable (i < j)] [(i j : Int) → Decidable (i ≤ j)] (op : BoolOp) (f : Expr → ED) : List Expr → ED
  | [] => noD
  | [a] => f a
  | a :: b :: r => match op with
    | .Or => orD (f a) (boolD op f (b :: r))
    | .And => andD (f a) (boolD op f (b :: r))
def boolT [DecidableEq Str] [DecidableEq Key] [DecidableEq String] [(α : Type) → GetElem? (List α) Nat α fun l i => i < l.length] [(α : Type) → Append (List α)] [(i j : Int) → Decidable (i < j)] [(i j : Int) → Decidable (i ≤ j)] (op : BoolOp) (f : Expr → TD) : List Expr → TD
  | [] => noT
  | [a] => f a
  | a :: b :: r => match op with
    | .Or => orT (f a) (boolT op f (b :: r))
    | .And => andT (f a) (boolT op f (b :: r))
def cmpD [DecidableEq Str] [DecidableEq Key] [DecidableEq String] [(α : Type) → GetElem? (List α) Nat α fun l i => i < l.length] [(α : Type) → Append (List α)] [(i j : Int) → Decidable (i < j)] [(i j : Int) → Decidable (i ≤ j)] (g : Pg) (f : Expr → ED) (a : Expr) (ops : List CmpOp) (cs : List Expr) : ED := match ops, cs with
  | [op], [b] => (match isSet b, opC g op with
    | false, some h => binD h (f a) (f b)
    | _, _ => noD)
  | [op, op'], [b, c] => (match lastMarks [op, op'] [b, c], opC g op, opC g op' with
    | false, some h, some h' => chainD h h' (f a) (f b) (f c)
    | _, _, _ => noD)
  | _, _ => noD
def partD [DecidableEq Str] [DecidableEq Key] [DecidableEq String] [(α : Type) → GetElem? (List α) Nat α fun l i => i < l.length] [(α : Type) → Append (List α)] [(i j : Int) → Decidable (i < j)] [(i j : Int) → Decidable (i ≤ j)] (f : Expr → ED) : Option Expr → OD
  | none => noPart
  | some e => somePart (f e)
def subD' [DecidableEq Str] [DecidableEq Key] [DecidableEq String] [(α : Type) → GetElem? (List α) Nat α fun l i => i < l.length] [(α : Type) → Append (List α)] [(i j : Int) → Decidable (i < j)] [(i j : Int) → Decidable (i ≤ j)] (g : Pg) (f : Expr → ED) (a : Expr) : Expr → ED
  | .Slice lo hi none _ => slD (f a) (partD f lo) (partD f hi)
  | i => if isSlice i then noD else binD (getD g) (f a) (f i)
def pairsE [DecidableEq Str] [DecidableEq Key] [DecidableEq String] [(α : Type) → GetElem? (List α) Nat α fun l i => i < l.length] [(α : Type) → Append (List α)] [(i j : Int) → Decidable (i < j)] [(i j : Int) → Decidable (i ≤ j)] (f : Expr → ED) : List (Option Expr) → List Expr → Option (List (ED × ED))
  | [], [] => some []
  | some k :: ks, v :: vs => (pairsE f ks vs).map ((f k, f v) :: ·)
  | _, _ => none
def dictE [DecidableEq Str] [DecidableEq Key] [DecidableEq String] [(α : Type) → GetElem? (List α) Nat α fun l i => i < l.length] [(α : Type) → Append (List α)] [(i j : Int) → Decidable (i < j)] [(i j : Int) → Decidable (i ≤ j)] (P : Px) (f : Expr → ED) (ks : List (Option Expr)) (vs : List Expr) (pos : Pos) : ED := match ks, vs with
  | [], [] => if P.tk.contains pos then newTD else newKD
  | ks, vs => if ks.isEmpty || !decide (ks.length ≤ 15) then noD else (match pairsE f ks vs with
    | some prs => dispD prs
    | none => noD)
def ifsT [DecidableEq Str] [DecidableEq Key] [DecidableEq String] [(α : Type) → GetElem? (List α) Nat α fun l i => i < l.length] [(α : Type) → Append (List α)] [(i j : Int) → Decidable (i < j)] [(i j : Int) → Decidable (i ≤ j)] (f : Expr → TD) : List Expr → Option TD
  | [] => some fun _ M => .ok true M
  | [c] => some (f c)
  | _ => none
def lcE [DecidableEq Str] [DecidableEq Key] [DecidableEq String] [(α : Type) → GetElem? (List α) Nat α fun l i => i < l.length] [(α : Type) → Append (List α)] [(i j : Int) → Decidable (i < j)] [(i j : Int) → Decidable (i ≤ j)] (v : Ev) (n : Nat) (C : Cm) (elt : Expr) (scope : Scope) : List Comprehension → ED
  | [⟨tg, iter, ifs, 0⟩] => (match ifsT (v.T (C.blk scope)) ifs with
    | some tt => if blkC C.N C.sc scope (ownOf C.N scope) && (v.G (C.blk scope) tg).1.all (fun i => ((ownOf C.N scope).map (·.2)).contains i) && !isSet iter then
        lcD n (v.I C tg iter) (v.G (C.blk scope) tg).2 tt (v.E (C.blk scope) elt) ((ownOf C.N scope).map (·.2)) else noD
    | none => noD)
  | _ => noD
def dcE [DecidableEq Str] [DecidableEq Key] [DecidableEq String] [(α : Type) → GetElem? (List α) Nat α fun l i => i < l.length] [(α : Type) → Append (List α)] [(i j : Int) → Decidable (i < j)] [(i j : Int) → Decidable (i ≤ j)] (v : Ev) (n : Nat) (C : Cm) (k x : Expr) (scope : Scope) : List Comprehension → ED
  | [⟨tg, iter, ifs, 0⟩] => (match ifsT (v.T (C.blk scope)) ifs with
    | some tt => if blkC C.N C.sc scope (ownOf C.N scope) && (v.G (C.blk scope) tg).1.all (fun i => ((ownOf C.N scope).map (·.2)).contains i) && !isSet iter then
        dcD n (v.I C tg iter) (v.G (C.blk scope) tg).2 tt (v.E (C.blk scope) k) (v.E (C.blk scope) x) ((ownOf C.N scope).map (·.2)) else noD
    | none => noD)
  | _ => noD
def joinE [DecidableEq Str] [DecidableEq Key] [DecidableEq String] [(α : Type) → GetElem? (List α) Nat α fun l i => i < l.length] [(α : Type) → Append (List α)] [(i j : Int) → Decidable (i < j)] [(i j : Int) → Decidable (i ≤ j)] (f : Expr → ED) : List Expr → ED
  | [] => noD
  | [a] => f a
  | a :: b :: r => joinsD (f a :: f b :: r.map f) Str.empty
def methE [DecidableEq Str] [DecidableEq Key] [DecidableEq String] [(α : Type) → GetElem? (List α) Nat α fun l i => i < l.length] [(α : Type) → Append (List α)] [(i j : Int) → Decidable (i < j)] [(i j : Int) → Decidable (i ≤ j)] (P : Px) (T : Tb) (m : Str) (kws : List Keyword) (da : ED) (dr dk : AD) : ED := fun ρ M => (da ρ M).bind fun x M1 => match methKey P.gf M1 x m with
  | some key => argsE dr dk (fun ds es' => callF P.gf T key (x :: ds) ((kwNames kws).zip es')) ρ M1
  | none => .no
def fewB [DecidableEq Str] [DecidableEq Key] [DecidableEq String] [(α : Type) → GetElem? (List α) Nat α fun l i => i < l.length] [(α : Type) → Append (List α)] [(i j : Int) → Decidable (i < j)] [(i j : Int) → Decidable (i ≤ j)] (es : List Expr) (kws : List Keyword) : Bool := decide (es.length + kws.length + (if kws.isEmpty then 0 else 1) < 30)
def mfOf [DecidableEq Str] [DecidableEq Key] [DecidableEq String] [(α : Type) → GetElem? (List α) Nat α fun l i => i < l.length] [(α : Type) → Append (List α)] [(i j : Int) → Decidable (i < j)] [(i j : Int) → Decidable (i ≤ j)] (kws : List Keyword) (m : Str) : Option MF := if kws.isEmpty then mfs.lookup m else none
/-- sum(.., start=..) -/
def sumKD [DecidableEq Str] [DecidableEq Key] [DecidableEq String] [(α : Type) → GetElem? (List α) Nat α fun l i => i < l.length] [(α : Type) → Append (List α)] [(i j : Int) → Decidable (i < j)] [(i j : Int) → Decidable (i ≤ j)] (ds es : List D) (M : Store) : R D := match ds, es with
  | [.ref r], [.int i] => (match lstRd M r with
    | some xs => (match intsOf xs with
      | some ns => if sumFits i ns then .ok (.int (i + ns.sum)) M else .no
      | none => .no)
    | none => .no)
  | _, _ => .no
def isName [DecidableEq Str] [DecidableEq Key] [DecidableEq String] [(α : Type) → GetElem? (List α) Nat α fun l i => i < l.length] [(α : Type) → Append (List α)] [(i j : Int) → Decidable (i < j)] [(i j : Int) → Decidable (i ≤ j)] : Expr → Bool
  | .Name _ _ => true
  | _ => false
def callE [DecidableEq Str] [DecidableEq Key] [DecidableEq String] [(α : Type) → GetElem? (List α) Nat α fun l i => i < l.length] [(α : Type) → Append (List α)] [(i j : Int) → Decidable (i < j)] [(i j : Int) → Decidable (i ≤ j)] (P : Px) (T T1 : Tb) (f : Expr → ED) (C : Cm) (fn : Expr) (es : List Expr) (kws : List Keyword) (pos : Pos) : ED :=
  if !(noStars es && kwAll kws) then noD else match fn with
  | .Name x _ => if globB C x then (match P.gf.fns.lookup x with
      | some i => if i.top then argsE (evA f es) (evK f kws) (fun ds es' => callF P.gf T x ds ((kwNames kws).zip es')) else noD
      | none => (match P.gf.mks.lookup x with
        | some _ => argsE (evA f es) (evK f kws) (fun ds es' => makeF P.gf T1 x ds ((kwNames kws).zip es'))
        | none => if P.gf.mk0.contains x then (if es.isEmpty && kws.isEmpty then make0D x else noD) else (match bfs.lookup x with
          | some b => if x == ("len" : Str) then (match es, kws with
              | [a], [] => unD (lenO P.gf T1) (f a)
              | _, _ => noD)
            else if x == ("sum" : Str) && !kws.isEmpty then (match es, kws with
              | [a], [⟨some n, e, _⟩] => if n == ("start" : Str) then argsE (evA f [a]) (evK f kws) sumKD else noD
              | _, _ => noD)
            else if kws.isEmpty && !es.isEmpty then callD (b.den P.gf.g) (evA f es) else noD
          | none => noD))) else noD
  | .Attribute o m apos => if isCall0 o || !(fewB es kws) || !(apos.endLine == pos.line) then noD else (match mfOf kws m with
      | some b => fun ρ M => if (match f o ρ M with | .ok x M1 => isTy b.T M1 x | _ => false) = true then mtD b.T b.den (f o) (evA f es) ρ M else methE P T m kws (f o) (evA f es) (evK f kws) ρ M
      | none => methE P T m kws (f o) (evA f es) (evK f kws))
  | fn => if isName fn || isAttr fn then noD else viaD P.gf T kws (f fn) (evA f es) (evK f kws)
/-- the dict that a comprehension walks -/
def walked [DecidableEq Str] [DecidableEq Key] [DecidableEq String] [(α : Type) → GetElem? (List α) Nat α fun l i => i < l.length] [(α : Type) → Append (List α)] [(i j : Int) → Decidable (i < j)] [(i j : Int) → Decidable (i ≤ j)] (v : Ev) (C : Cm) : List Comprehension → Option (Env1 → Store → Option Nat)
  | [⟨_, .Call (.Attribute o m _) [] [] _, _, _⟩] => if m == ("items" : Str) then some fun ρ M => (match v.E C o ρ M with
    | .ok (.ref r) _ => some r
    | _ => none) else none
  | _ => none
def stE [DecidableEq Str] [DecidableEq Key] [DecidableEq String] [(α : Type) → GetElem? (List α) Nat α fun l i => i < l.length] [(α : Type) → Append (List α)] [(i j : Int) → Decidable (i < j)] [(i j : Int) → Decidable (i ≤ j)] (P : Px) (T T1 : Tb) (v : Ev) (n : Nat) (C : Cm) : Expr → ED
  | .Name x _ => nameD P C x
  | .Constant c _ _ => constD c
  | .BinOp a op b _ => (match opB op with
    | some h => binD h (v.E C a) (v.E C b)
    | none => noD)
  | .BoolOp op vs _ => boolD op (v.E C) vs
  | .UnaryOp op a _ => (match op with
    | .Not => notD (v.E C a)
    | .USub => unD negD (v.E C a)
    | _ => noD)
  | .IfExp c a b _ => ifD (v.T C c) (v.E C a) (v.E C b)
  | .Compare a ops cs _ => cmpD P.gf.g (v.E C) a ops cs
  | .Subscript a i _ => subD' P.gf.g (v.E C) a i
  | .Tuple es _ _ => if noStars es then dTup (evA (v.E C) es) else noD
  | .List es _ => if noStars es then dLst (evA (v.E C) es) else noD
  | .Dict ks vs pos => dictE P (v.E C) ks vs pos
  | .ListComp elt gens scope _ => (match walked v C gens with
    | some rf => lockE rf (lcE v n C elt scope gens)
    | none => lcE v n C elt scope gens)
  | .DictComp k x gens scope _ => (match walked v C gens with
    | some rf => lockE rf (dcE v n C k x scope gens)
    | none => dcE v n C k x scope gens)
  | .Attribute a f _ => if isCall0 a then noD else unD (fldD P.gf.g f) (v.E C a)
  | .Call fn es kws pos => callE P T T1 (v.E C) C fn es kws pos
  | .FormattedValue a c none _ => if c = -1 then unD fmtD (v.E C a) else noD
  | .JoinedStr vs _ => joinE (v.E C) vs
  | _ => noD
def plainT [DecidableEq Str] [DecidableEq Key] [DecidableEq String] [(α : Type) → GetElem? (List α) Nat α fun l i => i < l.length] [(α : Type) → Append (List α)] [(i j : Int) → Decidable (i < j)] [(i j : Int) → Decidable (i ≤ j)] : Expr → Bool
  | .UnaryOp .Not _ _ => false
  | .BoolOp _ _ _ => false
  | .IfExp _ _ _ _ => false
  | .Compare _ _ _ _ => false
  | _ => true
def stT [DecidableEq Str] [DecidableEq Key] [DecidableEq String] [(α : Type) → GetElem? (List α) Nat α fun l i => i < l.length] [(α : Type) → Append (List α)] [(i j : Int) → Decidable (i < j)] [(i j : Int) → Decidable (i ≤ j)] (P : Px) (v : Ev) (C : Cm) : Expr → TD
  | .UnaryOp .Not a _ => notT (v.T C a)
  | .BoolOp op vs _ => boolT op (v.T C) vs
  | .Compare a ops cs _ => blT (cmpD P.gf.g (v.E C) a ops cs)
  | e => if plainT e then testD truD (v.E C e) else noT
def isTup [DecidableEq Str] [DecidableEq Key] [DecidableEq String] [(α : Type) → GetElem? (List α) Nat α fun l i => i < l.length] [(α : Type) → Append (List α)] [(i j : Int) → Decidable (i < j)] [(i j : Int) → Decidable (i ≤ j)] : Expr → Bool
  | .Tuple _ _ _ => true
  | _ => false
def stI [DecidableEq Str] [DecidableEq Key] [DecidableEq String] [(α : Type) → GetElem? (List α) Nat α fun l i => i < l.length] [(α : Type) → Append (List α)] [(i j : Int) → Decidable (i < j)] [(i j : Int) → Decidable (i ≤ j)] (P : Px) (v : Ev) (C : Cm) (tg : Expr) : Expr → ID
  | .Call (.Name x p) es kws pos => if globB C x && kws.isEmpty && noStars es && (x == ("range" : Str) || x == ("reversed" : Str) || x == ("enumerate" : Str) || x == ("zip" : Str)) then
      (match es with
      | [a] => if x == ("range" : Str) then argI rng1Of (evA (v.E C) [a]) else if x == ("reversed" : Str) then (fun ρ M => (v.E C a ρ M).bind revOf) else if x == ("enumerate" : Str) && isTup tg then argI enumOf (evA (v.E C) [a]) else noI
      | [a, b] => if x == ("range" : Str) then argI rng2Of (evA (v.E C) [a, b]) else if x == ("zip" : Str) && isTup tg then argI zip2Of (evA (v.E C) [a, b]) else noI
      | _ => noI)
    else iterI (v.E C (.Call (.Name x p) es kws pos))
  | .Call (.Attribute o m apos) [] [] pos => if m == ("items" : Str) && isTup tg && !isCall0 o && apos.endLine == pos.line then (fun ρ M => (v.E C o ρ M).bind itemsOf') else iterI (v.E C (.Call (.Attribute o m apos) [] [] pos))
  | e => iterI (v.E C e)
def storeB [DecidableEq Str] [DecidableEq Key] [DecidableEq String] [(α : Type) → GetElem? (List α) Nat α fun l i => i < l.length] [(α : Type) → Append (List α)] [(i j : Int) → Decidable (i < j)] [(i j : Int) → Decidable (i ≤ j)] (C : Cm) (x : Str) : Bool := match C.sc.names.lookup x with
  | some .local => true
  | some .cell => C.fn x
  | _ => false
def starOf [DecidableEq Str] [DecidableEq Key] [DecidableEq String] [(α : Type) → GetElem? (List α) Nat α fun l i => i < l.length] [(α : Type) → Append (List α)] [(i j : Int) → Decidable (i < j)] [(i j : Int) → Decidable (i ≤ j)] : List Expr → Option (Expr × Expr)
  | [t1, .Starred t2 _] => some (t1, t2)
  | _ => none
def stG [DecidableEq Str] [DecidableEq Key] [DecidableEq String] [(α : Type) → GetElem? (List α) Nat α fun l i => i < l.length] [(α : Type) → Append (List α)] [(i j : Int) → Decidable (i < j)] [(i j : Int) → Decidable (i ≤ j)] (v : Ev) (C : Cm) : Expr → List Nat × GD
  | .Name x _ => if storeB C x then (match idx x C.N with
    | some i => ([i], gName1 i)
    | none => ([], gNone)) else ([], gNone)
  | .Tuple es _ _ => (match starOf es with
    | some t => if isStar t.1 || isStar t.2 then ([], gNone) else ((evGs (v.G C) [t.1, t.2]).1, gStar1 (evGs (v.G C) [t.1, t.2]).2)
    | none => if noStars es then ((evGs (v.G C) es).1, gTup1 es.length (evGs (v.G C) es).2) else ([], gNone))
  | .Subscript o i _ => if isSlice i then ([], gNone) else ([], gSubT (v.E C o) (v.E C i))
  | _ => ([], gNone)
/-- whether [..] is stored straight into a name -/
def swC [DecidableEq Str] [DecidableEq Key] [DecidableEq String] [(α : Type) → GetElem? (List α) Nat α fun l i => i < l.length] [(α : Type) → Append (List α)] [(i j : Int) → Decidable (i < j)] [(i j : Int) → Decidable (i ≤ j)] (sc s : Scope) (t : Str) (p q : Pos) : Bool := sc.names.lookup t == some .local && p.line == q.line && !(s.names.any fun (n, k) => n == t && (k == .local || k == .cell))
def swB [DecidableEq Str] [DecidableEq Key] [DecidableEq String] [(α : Type) → GetElem? (List α) Nat α fun l i => i < l.length] [(α : Type) → Append (List α)] [(i j : Int) → Decidable (i < j)] [(i j : Int) → Decidable (i ≤ j)] (sc : Scope) (value : Expr) (t : Str) (p : Pos) : Option Bool := match value with
  | .ListComp _ _ s q => if sc.kind == .function then some (swC sc s t p q) else none
  | .SetComp _ _ _ _ => none
  | .DictComp _ _ _ s q => if (sc.kind == .function) && !(swC sc s t p q) then some false else none
  | _ => some false
def parF [DecidableEq Str] [DecidableEq Key] [DecidableEq String] [(α : Type) → GetElem? (List α) Nat α fun l i => i < l.length] [(α : Type) → Append (List α)] [(i j : Int) → Decidable (i < j)] [(i j : Int) → Decidable (i ≤ j)] (sc : Scope) (ln : Nat) : Expr → Option Str
  | .Name id pos => if sc.names.lookup id == some .local && pos.line == ln then some id else none
  | _ => none
def parNames [DecidableEq Str] [DecidableEq Key] [DecidableEq String] [(α : Type) → GetElem? (List α) Nat α fun l i => i < l.length] [(α : Type) → Append (List α)] [(i j : Int) → Decidable (i < j)] [(i j : Int) → Decidable (i ≤ j)] (sc : Scope) (ts : List Expr) : List Str := ts.filterMap (parF sc ((ts.head?.map (·.pos.line)).getD 0))
def parB [DecidableEq Str] [DecidableEq Key] [DecidableEq String] [(α : Type) → GetElem? (List α) Nat α fun l i => i < l.length] [(α : Type) → Append (List α)] [(i j : Int) → Decidable (i < j)] [(i j : Int) → Decidable (i ≤ j)] (sc : Scope) (ts vs : List Expr) : Bool := (sc.kind == .function) && noStars vs && !(vs.all (foldedForSure 8)) && !(vs.all (constantsAlone 8)) && decide ((parNames sc ts).length = ts.length) && decide ((parNames sc ts).eraseDups.length = (parNames sc ts).length)
def parE [DecidableEq Str] [DecidableEq Key] [DecidableEq String] [(α : Type) → GetElem? (List α) Nat α fun l i => i < l.length] [(α : Type) → Append (List α)] [(i j : Int) → Decidable (i < j)] [(i j : Int) → Decidable (i ≤ j)] (v : Ev) (C : Cm) (ts vs : List Expr) : SD := if parB C.sc ts vs then (match ts, vs with
  | [.Name x _, .Name y _], [a, b] => (match idx x C.N, idx y C.N with
    | some i, some j => if i = j then noS else parS i j (evA (v.E C) [a, b])
    | _, _ => noS)
  | [.Name x _, .Name y _, .Name z _], [a, b, c] => (match idx x C.N, idx y C.N, idx z C.N with
    | some i, some j, some l => if i = j ∨ i = l ∨ j = l then noS else par3S i j l (evA (v.E C) [a, b, c])
    | _, _, _ => noS)
  | _, _ => noS) else noS
def asgE [DecidableEq Str] [DecidableEq Key] [DecidableEq String] [(α : Type) → GetElem? (List α) Nat α fun l i => i < l.length] [(α : Type) → Append (List α)] [(i j : Int) → Decidable (i < j)] [(i j : Int) → Decidable (i ≤ j)] (P : Px) (v : Ev) (n : Nat) (C : Cm) (tg value : Expr) : SD := match tg with
  | .Name x p => (match swB C.sc value x p, storeB C x, idx x C.N with
    | some false, true, some i => asgS (v.E C value) (gName1 i)
    | some true, true, some i => (match value with
      | .ListComp elt gens scope _ => asgS (lcE v n C elt scope gens) (gName1 i)
      | _ => noS)
    | _, _, _ => noS)
  | .Tuple ts _ _ => (match value with
    | .Tuple vs _ _ => parE v C ts vs
    | _ => asgS (v.E C value) (v.G C tg).2)
  | .Attribute o f _ => fldS P.gf.g f (v.E C value) (v.E C o)
  | .Subscript o i _ => if isSlice i then noS else subS (v.E C value) (v.E C o) (v.E C i)
  | _ => noS
def augE [DecidableEq Str] [DecidableEq Key] [DecidableEq String] [(α : Type) → GetElem? (List α) Nat α fun l i => i < l.length] [(α : Type) → Append (List α)] [(i j : Int) → Decidable (i < j)] [(i j : Int) → Decidable (i ≤ j)] (P : Px) (v : Ev) (C : Cm) (tg : Expr) (op : Operator) (e : Expr) : SD := match tg with
  | .Name x _ => (match storeB C x, idx x C.N with
    | true, some i => augNS i op (v.E C e)
    | _, _ => noS)
  | .Attribute o f _ => augFS P.gf.g f op (v.E C o) (v.E C e)
  | .Subscript o i _ => if isSlice i then noS else augSS op (v.E C o) (v.E C i) (v.E C e)
  | _ => noS
def isStr [DecidableEq Str] [DecidableEq Key] [DecidableEq String] [(α : Type) → GetElem? (List α) Nat α fun l i => i < l.length] [(α : Type) → Append (List α)] [(i j : Int) → Decidable (i < j)] [(i j : Int) → Decidable (i ≤ j)] : Expr → Bool
  | .Constant (.str _) _ _ => true
  | _ => false
def stS [DecidableEq Str] [DecidableEq Key] [DecidableEq String] [(α : Type) → GetElem? (List α) Nat α fun l i => i < l.length] [(α : Type) → Append (List α)] [(i j : Int) → Decidable (i < j)] [(i j : Int) → Decidable (i ≤ j)] (P : Px) (v : Ev) (n : Nat) (C : Cm) : Stmt → SD
  | .Pass _ => skipS
  | .Break _ => bkS
  | .Continue _ => ctS
  | .Expr e _ => if isComp e then noS else if isStr e then skipS else exprS (v.E C e)
  | .Return (some e) _ => retS (v.E C e)
  | .Return none _ => fun _ M => .rt .non M
  | .If c a b _ => ifS (v.T C c) (evSs (v.S C) a) (evSs (v.S C) b)
  | .Assign [tg] value _ => asgE P v n C tg value
  | .AugAssign tg op e _ => augE P v C tg op e
  | .For tg e body [] _ => if isSet e then noS else forS n (v.I C tg e) (v.G C tg).2 (evSs (v.S C) body)
  | .While c body [] _ => whileL (v.T C c) (evSs (v.S C) body) n
  | .Try body (_ :: _) [] [] _ => noExS (evSs (v.S C) body)
  | _ => noS
def stEv [DecidableEq Str] [DecidableEq Key] [DecidableEq String] [(α : Type) → GetElem? (List α) Nat α fun l i => i < l.length] [(α : Type) → Append (List α)] [(i j : Int) → Decidable (i < j)] [(i j : Int) → Decidable (i ≤ j)] (P : Px) (T T1 : Tb) (n : Nat) (v : Ev) : Ev := ⟨stE P T T1 v n, stT P v, stI P v, stG v, stS P v n⟩
def noEv [DecidableEq Str] [DecidableEq Key] [DecidableEq String] [(α : Type) → GetElem? (List α) Nat α fun l i => i < l.length] [(α : Type) → Append (List α)] [(i j : Int) → Decidable (i < j)] [(i j : Int) → Decidable (i ≤ j)] : Ev := ⟨fun _ _ => noD, fun _ _ => noT, fun _ _ _ => noI, fun _ _ => ([], gNone), fun _ _ => noS⟩
def evN [DecidableEq Str] [DecidableEq Key] [DecidableEq String] [(α : Type) → GetElem? (List α) Nat α fun l i => i < l.length] [(α : Type) → Append (List α)] [(i j : Int) → Decidable (i < j)] [(i j : Int) → Decidable (i ≤ j)] (P : Px) (T T1 : Tb) (n : Nat) : Nat → Ev
  | 0 => noEv
  | k + 1 => stEv P T T1 n (evN P T T1 n k)
end Ev
set_option Elab.async false
set_option linter.all false
set_option maxRecDepth 100000
set_option maxHeartbeats 4000000
/-! The evaluator is right. -/
namespace Ev
open PySem PySem.Spec PyProof.Rows L2

structure Good (P : Px) (adr : Str → Addr) (k : Nat) (T T1 : Tb) (X : Cx) (W : WX) (C : Cm) : Prop where
  N : X.N = C.N
  nd : X.N.Nodup
  sc : X.env.scope = C.sc
  fn : ∀ x, X.fn x = C.fn x
  calm : X.calm = true
  tk : Takes X W
  fa : Facts X P.gf.g
  ff : FactsF X.prog X.w X.K X.mg P.gf adr
  ok : AllOk X.prog X.w X.K X.mg X.base P.gf adr (k + 1) T
  ok1 : AllOk X.prog X.w X.K X.mg X.base P.gf adr k T1
  room : Room (k + 1) X.A
  gd : X.A.guards = some []
  bl : ∀ x ∈ bltNames, X.mg x = none
structure GoodS (P : Px) (adr : Str → Addr) (k : Nat) (T T1 : Tb) (X : Cx) (W : WX) (C : Cm) : Prop extends Good P adr k T T1 X W C where
  ps : PassesOwn (model X.prog X.w) X.A X.env X.xe
structure Sound (P : Px) (adr : Str → Addr) (k : Nat) (T T1 : Tb) (v : Ev) : Prop where
  hE : ∀ X W C e, Good P adr k T T1 X W C → PE X e (rE X W (v.E C e))
  hT : ∀ X W C e, Good P adr k T T1 X W C → PT X e (rT X W (v.T C e))
  hI : ∀ X W C tg e, Good P adr k T T1 X W C → PI X tg e (rI X W (v.I C tg e))
  hG : ∀ X W C e, Good P adr k T T1 X W C → PG X e (rG X (v.G C e).1 (v.G C e).2)
  hS : ∀ X W C st, GoodS P adr k T T1 X W C → PS X st (rS X W (v.S C st))
section
variable {P : Px} {adr : Str → Addr} {k : Nat} {T T1 : Tb} {X : Cx} {W : WX} {C : Cm} {v : Ev}
theorem Good.u1 (G : Good P adr k T T1 X W C) : X.A.units + 1 < cLine := by have := G.room.un; omega
theorem Good.u64 (G : Good P adr k T T1 X W C) : X.A.units + 64 < cLine := by have := G.room.un; omega
theorem Good.u65 (G : Good P adr k T T1 X W C) : X.A.units + 65 < cLine := by have := G.room.un; omega
theorem Good.gl (G : Good P adr k T T1 X W C) {x : Str} (h : globB C x = true) : Gl X x ∧ (x == ("__debug__" : Str)) = false := by
  unfold globB at h
  rw [Bool.and_eq_true] at h
  refine ⟨?_, by simpa using h.2⟩
  show X.env.scope.names.lookup x = _
  rw [G.sc]
  simpa using h.1
theorem Good.vis (G : Good P adr k T T1 X W C) {x : Str} (h : localB C x = true) : Vis X.env.scope x := by
  unfold localB at h
  unfold Vis
  rw [G.sc]
  split at h
  · rename_i e; exact .inl e
  · rename_i e; exact .inr (.inl e)
  · rename_i e; exact .inr (.inr e)
  · cases h
theorem name_ok (G : Good P adr k T T1 X W C) {x : Str} {pos : Pos} : PE X (.Name x pos) (rE X W (nameD P C x)) := by
  unfold nameD
  split
  · exact q_no
  · rename_i hd
    rw [Bool.not_eq_true, Bool.or_eq_false_iff] at hd
    split
    · rename_i hl
      split
      · rename_i i hi
        exact q_var (pe_var (by rw [G.N]; exact idx_at hi) (G.vis hl) hd.1 hd.2)
      · exact q_no
    · split
      · rename_i hg
        obtain ⟨g1, g2⟩ := G.gl hg
        split
        · rename_i d hv
          obtain ⟨u, w, h1, h2, h3⟩ := G.fa.val x d hv
          exact q_C (pe_glob g1 h1 h2 g2) h3
        · split
          · rename_i n hn
            have hx : x ∈ tys.map (·.1) := by
              rcases List.mem_map.mpr ⟨(x, n), PySem.mem_of_lookup hn, rfl⟩ with h
              exact h
            have hm : X.mg x = none := G.bl x (by unfold bltNames; simp only [List.mem_append]; exact .inl (.inr hx))
            have hb : bootBuiltins x = some (.type n) ∧ x ≠ "__name__" := by
              have : ∀ p ∈ tys, bootBuiltins p.1 = some (.type p.2) ∧ p.1 ≠ "__name__" := by decide +kernel
              exact this (x, n) (PySem.mem_of_lookup hn)
            exact q_C (v := .ty n) (pe_bltn g1 hm hb.1 rfl hb.2 g2) fun _ _ => .ty n
          · exact q_no
      · exact q_no
theorem const_ok {c : Const} {j : Nat} {pos : Pos} : PE X (.Constant c j pos) (rE X W (constD c)) := by
  cases c with
  | int i => exact q_C pe_int fun _ _ => .int i
  | str x => exact q_C pe_str fun _ _ => .str x
  | bool b => exact q_C pe_bl fun _ _ => .bl b
  | none => exact q_C pe_non fun _ _ => .non
  | _ => exact q_no
theorem opB_ok {op : Operator} {f : D → D → Store → R D} (h : opB op = some f) : OpS X (binaryOp op) f := by
  cases op <;> first | (cases h; first | exact o_add | exact o_sub | exact o_mul | exact o_fdiv | exact o_mod | exact o_pow) | cases h
theorem opC_ok (G : Good P adr k T T1 X W C) {op : CmpOp} {f : D → D → Store → R D} (h : opC P.gf.g op = some f) : OpS X (compareOp op) f := by
  cases op <;> (cases h; first | exact o_eq G.u64 | exact o_ne G.u64 | exact o_lt | exact o_le | exact o_gt | exact o_ge | exact o_is | exact o_isNot | exact o_in G.fa G.u65 | exact o_notIn G.fa G.u65)
theorem bool_ok {op : BoolOp} {pos : Pos} {f : Expr → ED} : ∀ {vs : List Expr}, (∀ e, PE X e (rE X W (f e))) → PE X (.BoolOp op vs pos) (rE X W (boolD op f vs))
  | [], _ => q_no
  | [a], h => q_one (h a)
  | a :: b :: r, h => by
    have ih := bool_ok (op := op) (pos := pos) (vs := b :: r) h
    cases op with
    | Or => exact q_or (h a) ih
    | And => exact q_and (h a) ih
theorem boolT_ok {op : BoolOp} {pos : Pos} {f : Expr → TD} : ∀ {vs : List Expr}, vs ≠ [] → (∀ e, PT X e (rT X W (f e))) → PW X (.BoolOp op vs pos) (rT X W (boolT op f vs))
  | [], h, _ => absurd rfl h
  | [a], _, h => by
    cases op with
    | Or => exact qt_or1 (h a)
    | And => exact qt_and1 (h a)
  | a :: b :: r, _, h => by
    have ih := boolT_ok (op := op) (pos := pos) (vs := b :: r) (by simp) h
    cases op with
    | Or => exact qt_or (h a) ih
    | And => exact qt_and (h a) ih
theorem cmp_ok (G : Good P adr k T T1 X W C) {a : Expr} {ops : List CmpOp} {cs : List Expr} {pos : Pos} {f : Expr → ED} (h : ∀ e, PE X e (rE X W (f e))) : PE X (.Compare a ops cs pos) (rE X W (cmpD P.gf.g f a ops cs)) := by
  unfold cmpD
  split
  · split
    · rename_i hs ho
      exact q_cmp (opC_ok G ho) (h _) (h _) (noBehind hs)
    · exact q_no
  · split
    · rename_i hs ho ho'
      exact q_chain (opC_ok G ho) (opC_ok G ho') (h _) (h _) (h _) hs
    · exact q_no
  · exact q_no
theorem cmpT_ok (G : Good P adr k T T1 X W C) {a : Expr} {ops : List CmpOp} {cs : List Expr} {pos : Pos} {f : Expr → ED} (h : ∀ e, PE X e (rE X W (f e))) : PT X (.Compare a ops cs pos) (rT X W (blT (cmpD P.gf.g f a ops cs))) := by
  unfold cmpD
  split
  · split
    · rename_i hs ho
      exact qt_cmp (opC_ok G ho) (h _) (h _) (noBehind hs)
    · exact qt_no
  · split
    · rename_i hs ho ho'
      exact qt_chain (opC_ok G ho) (opC_ok G ho') (h _) (h _) (h _) hs
    · exact qt_no
  · exact qt_no
theorem part_ok {f : Expr → ED} (h : ∀ e, PE X e (rE X W (f e))) : ∀ {o : Option Expr}, PO X o (rO X W (partD f o))
  | none => q_noPart
  | some e => q_somePart (h e)
theorem sub_ok (G : Good P adr k T T1 X W C) {a i : Expr} {pos : Pos} {f : Expr → ED} (h : ∀ e, PE X e (rE X W (f e))) : PE X (.Subscript a i pos) (rE X W (subD' P.gf.g f a i)) := by
  unfold subD'
  split
  · exact q_slice (h a) (part_ok h) (part_ok h)
  · split
    · exact q_no
    · rename_i hs
      exact q_get G.fa G.u1 (h a) (h _) (plainIx (by simpa using hs))
theorem args_ok {f : Expr → ED} (h : ∀ e, PE X e (rE X W (f e))) : ∀ {es : List Expr}, noStars es = true → PA X es (rA X W (evA f es))
  | [], _ => q_nil
  | e :: es, hs => by
    unfold noStars at hs
    rw [List.all_cons, Bool.and_eq_true] at hs
    exact q_cons (h e) (args_ok h (es := es) hs.2) (star_cons (by simpa using hs.1))
theorem kw_ok {f : Expr → ED} (h : ∀ e, PE X e (rE X W (f e))) : ∀ {kws : List Keyword}, PK X kws (rA X W (evK f kws))
  | [] => qk_nil
  | ⟨_, e, _⟩ :: r => qk_cons (h e) (kw_ok h)
theorem pairs_ok {f : Expr → ED} (h : ∀ e, PE X e (rE X W (f e))) : ∀ {ks : List (Option Expr)} {vs : List Expr} {prs : List (ED × ED)}, pairsE f ks vs = some prs → PDs X W ks vs prs
  | [], [], _, e => by cases e; exact .nil
  | some k :: ks, x :: vs, prs, e => by
    unfold pairsE at e
    obtain ⟨r, e1, e2⟩ := Option.map_eq_some_iff.mp e
    subst e2
    exact .cons (h k) (h x) (pairs_ok h e1)
  | [], _ :: _, _, e => by cases e
  | none :: _, _, _, e => by cases e
  | some _ :: _, [], _, e => by cases e
theorem dict_ok {ks : List (Option Expr)} {vs : List Expr} {pos : Pos} {f : Expr → ED} (h : ∀ e, PE X e (rE X W (f e))) : PE X (.Dict ks vs pos) (rE X W (dictE P f ks vs pos)) := by
  unfold dictE
  split
  · split
    · exact q_newT
    · exact q_newK
  · split
    · exact q_no
    · rename_i hc
      simp only [Bool.or_eq_true, Bool.not_eq_true', decide_eq_false_iff_not, not_or, Decidable.not_not, Bool.not_eq_true] at hc
      split
      · rename_i prs e
        exact q_disp (pairs_ok h e) (fun z => by rw [z] at hc; exact absurd hc.1 (by simp)) hc.2
      · exact q_no
theorem blk_sc {s : Shared} {H : Hp} {scope : Scope} {A : Addr} {cl : List (Str × Addr)} {fp : List Addr} (G : Good P adr k T T1 X W C) : Good P adr k T T1 (X.blk s H scope (compEnvC scope cl A X.env) fp) Wf (C.blk scope) where
  N := G.N
  nd := G.nd
  sc := by
    show relS scope X.env.scope = relS scope C.sc
    rw [G.sc]
  fn := fun _ => rfl
  calm := G.calm
  tk := fun _ _ ⟨_, _, _, _, _, _, _, _, _, _, _, _, _, _, _, _, w⟩ => w.elim
  fa := ⟨G.fa.val, G.fa.tab, G.fa.cls, G.fa.desc, G.fa.isi⟩
  ff := G.ff
  ok := G.ok
  ok1 := G.ok1
  room := G.room
  gd := G.gd
  bl := G.bl
theorem nox_good (G : Good P adr k T T1 X W C) : GoodS P adr k T T1 X.nox Wf C where
  N := G.N
  nd := G.nd
  sc := G.sc
  fn := G.fn
  calm := G.calm
  tk := fun _ _ ⟨_, _, _, _, _, _, _, _, _, _, _, _, _, _, _, _, w⟩ => w.elim
  fa := ⟨G.fa.val, G.fa.tab, G.fa.cls, G.fa.desc, G.fa.isi⟩
  ff := G.ff
  ok := G.ok
  ok1 := G.ok1
  room := G.room
  gd := G.gd
  bl := G.bl
  ps := PassesOwn.never
theorem ifs_ok {f : Expr → TD} (h : ∀ e, PT X e (rT X W (f e))) : ∀ {ifs : List Expr} {tt : TD}, ifsT f ifs = some tt → PTs X ifs (rT X W tt)
  | [], _, e => by cases e; exact qts_nil
  | [c], _, e => by cases e; exact qts_one (h c)
  | _ :: _ :: _, _, e => by cases e
theorem setNo {e : Expr} (h : isSet e = false) : ∀ x, foldedSetIterable e X.env x = pure x := foldSet (by cases e <;> first | rfl | cases h)
theorem blk_ok (G : Good P adr k T T1 X W C) {scope : Scope} {own : List (Str × Nat)} (h : blkC C.N C.sc scope own = true) : BlkOk X.N X.env.scope scope own := by
  rw [G.N, G.sc]
  exact blkOk_by h
theorem lc_ok (S : Sound P adr k T T1 v) (G : Good P adr k T T1 X W C) {n : Nat} {elt : Expr} {scope : Scope} {gens : List Comprehension} {pos : Pos} : PE X (.ListComp elt gens scope pos) (rE X W (lcE v n C elt scope gens)) := by
  unfold lcE
  split
  · split
    · rename_i tt ht
      split
      · rename_i hb
        rw [Bool.and_eq_true, Bool.and_eq_true, List.all_eq_true] at hb
        obtain ⟨⟨h1, h2⟩, h3⟩ := hb
        exact q_lc G.calm G.nd (S.hI X W C _ _ G) (blk_ok G h1) (fun i hi => by simpa using h2 i hi) (fun s H A cl fp => S.hG _ Wf _ _ (blk_sc G)) (fun s H A cl fp => ifs_ok (fun e => S.hT _ Wf _ e (blk_sc G)) ht) (fun s H A cl fp => S.hE _ Wf _ _ (blk_sc G)) (setNo (by simpa using h3))
      · exact q_no
    · exact q_no
  · exact q_no
theorem dc_ok (S : Sound P adr k T T1 v) (G : Good P adr k T T1 X W C) {n : Nat} {kx vx : Expr} {scope : Scope} {gens : List Comprehension} {pos : Pos} : PE X (.DictComp kx vx gens scope pos) (rE X W (dcE v n C kx vx scope gens)) := by
  unfold dcE
  split
  · split
    · rename_i tt ht
      split
      · rename_i hb
        rw [Bool.and_eq_true, Bool.and_eq_true, List.all_eq_true] at hb
        obtain ⟨⟨h1, h2⟩, h3⟩ := hb
        exact q_dc G.calm G.nd (S.hI X W C _ _ G) (blk_ok G h1) (fun i hi => by simpa using h2 i hi) (fun s H A cl fp => S.hG _ Wf _ _ (blk_sc G)) (fun s H A cl fp => ifs_ok (fun e => S.hT _ Wf _ e (blk_sc G)) ht) (fun s H A cl fp => S.hE _ Wf _ _ (blk_sc G)) (fun s H A cl fp => S.hE _ Wf _ _ (blk_sc G)) (setNo (by simpa using h3))
      · exact q_no
    · exact q_no
  · exact q_no
theorem pj_ok {f : Expr → ED} (h : ∀ e, PE X e (rE X W (f e))) : ∀ {vs : List Expr}, PJD X W vs (vs.map f)
  | [] => .nil
  | e :: es => .cons (h e) (pj_ok h)
theorem join_ok {f : Expr → ED} (h : ∀ e, PE X e (rE X W (f e))) {vs : List Expr} {pos : Pos} : PE X (.JoinedStr vs pos) (rE X W (joinE f vs)) := by
  unfold joinE
  split
  · exact q_no
  · exact q_joined1 (h _)
  · exact q_joined (pj_ok h (vs := _ :: _ :: _))
theorem bf_ok (G : Good P adr k T T1 X W C) (b : BF) : CallS X b.v (b.den P.gf.g) := by
  cases b
  · exact k_len
  · exact k_abs
  · exact k_max G.calm
  · exact k_min G.calm
  · exact k_sum G.calm
  · exact k_divmod
  · exact k_int
  · exact k_str
  · exact k_list G.calm
  · exact k_tuple
  · exact k_dict
  · exact k_isi G.fa
  · exact k_all G.calm
  · exact k_any G.calm
  · exact k_repr G.gd G.u64
theorem blt_call (G : Good P adr k T T1 X W C) {x : Str} {b : BF} {p pos : Pos} {e : Expr} {es : List Expr} {dr : AD} (hb : bfs.lookup x = some b) (hg : globB C x = true) (ha : PA X (e :: es) (rA X W dr)) (hs : noStars (e :: es) = true) :
    PE X (.Call (.Name x p) (e :: es) [] pos) (rE X W (callD (b.den P.gf.g) dr)) := by
  obtain ⟨g1, g2⟩ := G.gl hg
  have hmem := PySem.mem_of_lookup hb
  have hm : X.mg x = none := G.bl x (by
    unfold bltNames
    simp only [List.mem_append]
    exact .inl (.inl (List.mem_map.mpr ⟨(x, b), hmem, rfl⟩)))
  have hv : ∀ p ∈ bfs, bootBuiltins p.1 = some p.2.v ∧ p.1 ≠ "__name__" := by decide +kernel
  obtain ⟨h1, h2⟩ := hv (x, b) hmem
  unfold noStars at hs
  rw [List.all_cons, Bool.and_eq_true] at hs
  have hc := bf_ok G b
  cases b <;> first
    | exact q_callB hc g1 hm h1 ha h2 g2 (star_cons (by simpa using hs.1)) (star_any hs.2)
    | exact q_callTy hc g1 hm h1 ha h2 g2 (star_cons (by simpa using hs.1)) (star_any hs.2)
theorem evA_nil {f : Expr → ED} {es : List Expr} : es = [] → evA f es = dNil := fun h => by subst h; rfl
theorem few_ok {es : List Expr} {env : Env} {pos : Pos} (hs : noStars es = true) (hn : es.length + ([] : List Keyword).length + (if ([] : List Keyword).isEmpty then 0 else 1) < 30) :
    ((backTo pos (starEach es env)).all (fun x => !x.1) && (backToKw pos (keywordEach [] env)).all (fun x => x.1.isSome) && decide (es.length + ([] : List Keyword).length + (if ([] : List Keyword).isEmpty then 0 else 1) < 30)) = true := by
  have e1 : (backTo pos (starEach es env)).all (fun x => !x.1) = true := by
    have := star_any (env := env) (pos := pos) hs
    rw [List.all_eq_not_any_not]
    simpa using this
  rw [e1, decide_eq_true hn]
  rfl
theorem mt_ok {b : MF} {o : Expr} {m : Str} {es : List Expr} {apos pos : Pos} {dd : ED} {f : Expr → ED} (hb : mfs.lookup m = some b) (ho : PE X o (rE X W dd)) (h : ∀ e, PE X e (rE X W (f e))) (hs : noStars es = true) (h0 : isCall0 o = false)
    (hn : es.length + ([] : List Keyword).length + (if ([] : List Keyword).isEmpty then 0 else 1) < 30) (hl : (apos.endLine == pos.line) = true) : PE X (.Call (.Attribute o m apos) es [] pos) (rE X W (mtD b.T b.den dd (evA f es))) := by
  have key : ∀ {id : String}, PlainAttrs b.T → Slot b.T m id → typeOf (.builtin id) = pure (.type "method_descriptor") → MtS X b.T id b.den → PE X (.Call (.Attribute o m apos) es [] pos) (rE X W (mtD b.T b.den dd (evA f es))) := fun {id} pa sl ty hm => by
    cases es with
    | nil => exact q_mt0 pa sl ty hm ho (attrBase h0) hl
    | cons e es =>
      have hs' := hs
      unfold noStars at hs'
      rw [List.all_cons, Bool.and_eq_true] at hs'
      exact q_mt pa sl ty hm ho (args_ok h hs) (attrBase h0) (few_ok hs hn) hl (star_cons (by simpa using hs'.1)) (star_any hs'.2)
  have hm' : m = b.name := by
    have : ∀ p ∈ mfs, p.1 = p.2.name := by
      intro q hq
      simp only [mfs, List.mem_cons, List.mem_nil_iff, or_false] at hq
      rcases hq with rfl | rfl | rfl | rfl | rfl <;> rfl
    exact this (m, b) (PySem.mem_of_lookup hb)
  cases b with
  | append => cases hm'; exact key F.plainAttrs_list F.slot_list_append F.type_list_append m_append
  | extend => cases hm'; exact key F.plainAttrs_list F.slot_list_extend F.type_list_extend m_extend
  | pop => cases hm'; exact key F.plainAttrs_list F.slot_list_pop F.type_list_pop m_pop
  | index => cases hm'; exact key F.plainAttrs_tuple F.slot_tuple_index F.type_tuple_index m_tupIndex
  | join => cases hm'; exact key F.plainAttrs_str F.slot_str_join F.type_str_join m_join
theorem blt_mem (G : Good P adr k T T1 X W C) {x : Str} {b : BF} (hb : bfs.lookup x = some b) : X.mg x = none := G.bl x (by
    unfold bltNames
    simp only [List.mem_append]
    exact .inl (.inl (List.mem_map.mpr ⟨(x, b), PySem.mem_of_lookup hb, rfl⟩)))
theorem sumK_ok (G : Good P adr k T T1 X W C) {b : BF} {p pos kp : Pos} {a e : Expr} {f : Expr → ED} (hb : bfs.lookup ("sum" : Str) = some b) (hg : globB C "sum" = true) (h : ∀ e, PE X e (rE X W (f e))) (hs : noStars [a] = true) (hw : kwAll [⟨some "start", e, kp⟩] = true) :
    PE X (.Call (.Name "sum" p) [a] [⟨some "start", e, kp⟩] pos) (rE X W (argsE (evA f [a]) (evK f [⟨some "start", e, kp⟩]) sumKD)) := by
  obtain ⟨g1, g2⟩ := G.gl hg
  refine ⟨fun pins s σ H Q I ⟨ι, ρ, M, rm, re, q⟩ => ?_⟩
  refine wpAny_Call_Name_kw (ld_blt I g1 (blt_mem G hb) (u := .builtin "sum") (by decide +kernel) ?_ (by decide) g2)
  refine call_with (first := []) kept_b I (args_ok h hs) (kw_ok h) evA_nil hs hw rm re sumKD Q q fun s2 H2 ι2 M2 us vs ds ws zs es' I2 m2 rm2 ru rz rv rz' q2 => ?_
  unfold sumKD at q2
  split at q2
  · rename_i r i
    split at q2
    · rename_i xs ex
      split at q2
      · rename_i ns en
        split at q2
        · rename_i hf
          cases rv with
          | cons r1 l1 =>
          cases l1
          cases rz' with
          | cons r2 l2 =>
          cases l2
          cases r1 with
          | @ref a0 _ hi =>
          cases r2
          cases ru with
          | cons u1 n1 =>
          cases n1
          cases rz with
          | cons u2 n2 =>
          cases n2
          obtain ⟨t, rfl⟩ := u2
          cases u1
          obtain ⟨a', vs', e1, hq, l⟩ := lstRd_at rm2 (.ref hi) ex
          cases e1
          have ev := intsOf_rep l en
          subst ev
          obtain ⟨its, rv, pl, _⟩ := I2.list (hq _)
          exact sum_start (I2.ok.hd G.calm) pl.isList rv.ints hf fun h' tk t' k => ⟨V.int _, H2, I2.kept k, ⟨_, rfl⟩, q2 _ _ _ .refl rm2 (.int _)⟩
        · exact q2.elim
      · exact q2.elim
    · exact q2.elim
  · exact q2.elim
theorem call_ok (G : Good P adr k T T1 X W C) {fn : Expr} {es : List Expr} {kws : List Keyword} {pos : Pos} {f : Expr → ED} (h : ∀ e, PE X e (rE X W (f e))) : PE X (.Call fn es kws pos) (rE X W (callE P T T1 f C fn es kws pos)) := by
  unfold callE
  split
  · exact q_no
  · rename_i hc
    rw [Bool.not_eq_true, Bool.not_eq_false', Bool.and_eq_true] at hc
    obtain ⟨hs, hw⟩ := hc
    split
    · rename_i x p
      split
      · rename_i hg
        obtain ⟨g1, g2⟩ := G.gl hg
        split
        · rename_i i hi
          split
          · rename_i ht
            exact q_call G.ff G.ok G.room G.gd G.tk g1 g2 (by rw [hi]; exact ht) (args_ok h hs) (kw_ok h) evA_nil hs hw
          · exact q_no
        · split
          · rename_i key hk
            exact q_make G.ff G.ok1 G.room G.gd G.tk g1 g2 (by rw [hk]; rfl) (args_ok h hs) (kw_ok h) evA_nil hs hw
          · split
            · rename_i h0
              split
              · rename_i hk
                rw [Bool.and_eq_true] at hk
                cases es with
                | cons _ _ => exact absurd hk.1 (by simp)
                | nil =>
                  cases kws with
                  | cons _ _ => exact absurd hk.2 (by simp)
                  | nil => exact q_make0 G.ff g1 g2 h0
              · exact q_no
            · split
              · rename_i b hb
                split
                · rename_i hx
                  have hx : x = "len" := by simpa using hx
                  subst hx
                  split
                  · exact q_len G.ff G.ok1 G.room G.gd G.tk g1 (blt_mem G hb) (h _) (star_cons (by unfold noStars at hs; simpa using hs))
                  · exact q_no
                · split
                  · rename_i hx
                    rw [Bool.and_eq_true] at hx
                    have hx1 : x = "sum" := by simpa using hx.1
                    subst hx1
                    split
                    · split
                      · rename_i hn
                        cases eq_of_beq hn
                        exact sumK_ok G hb hg h hs hw
                      · exact q_no
                    · exact q_no
                  · split
                    · rename_i hk
                      rw [Bool.and_eq_true] at hk
                      cases kws with
                      | nil =>
                        cases es with
                        | nil => exact absurd hk.2 (by decide)
                        | cons e es => exact blt_call G hb hg (args_ok h hs) hs
                      | cons _ _ => exact absurd hk.1 (by simp)
                    · exact q_no
              · exact q_no
      · exact q_no
    · rename_i o m apos
      split
      · exact q_no
      · rename_i hc
        simp only [Bool.or_eq_true, Bool.not_eq_true', not_or, Bool.not_eq_true, Bool.not_eq_false] at hc
        obtain ⟨⟨h0, hn'⟩, hl⟩ := hc
        have hn := of_decide_eq_true hn'
        have hM : PE X (.Call (.Attribute o m apos) es kws pos) (rE X W (methE P T m kws (f o) (evA f es) (evK f kws))) := q_meth G.ff G.ok G.room G.gd G.tk (h o) (args_ok h hs) (kw_ok h) evA_nil hs hw (meth_form h0 hs hw hn hl)
        split
        · rename_i b hb
          unfold mfOf at hb
          split at hb
          · rename_i hk
            cases kws with
            | nil => exact q_sel (fun ρ M => match f o ρ M with | .ok x M1 => isTy b.T M1 x | _ => false) (mt_ok hb (h o) h hs h0 hn hl) hM
            | cons _ _ => exact absurd hk (by simp)
          · cases hb
        · exact hM
    · split
      · exact q_no
      · rename_i hc
        rw [Bool.not_eq_true, Bool.or_eq_false_iff] at hc
        exact q_via G.ff G.ok G.room G.gd G.tk (h _) hc.2 (args_ok h hs) (kw_ok h) evA_nil hs hw
theorem stE_ok (S : Sound P adr k T T1 v) (G : Good P adr k T T1 X W C) {n : Nat} : ∀ e, PE X e (rE X W (stE P T T1 v n C e)) := fun e => by
  have h := fun e => S.hE X W C e G
  unfold stE
  split
  · exact name_ok G
  · exact const_ok
  · split
    · rename_i ho
      exact q_bin (opB_ok ho) (h _) (h _)
    · exact q_no
  · exact bool_ok h
  · split
    · exact q_not (h _)
    · exact q_neg (h _)
    · exact q_no
  · exact q_if (S.hT X W C _ G) (h _) (h _)
  · exact cmp_ok G h
  · exact sub_ok G h
  · split
    · rename_i hs
      exact q_tup (args_ok h hs)
    · exact q_no
  · split
    · rename_i hs
      exact q_lst (args_ok h hs)
    · exact q_no
  · exact dict_ok h
  · split
    · exact q_lock _ (lc_ok S G)
    · exact lc_ok S G
  · split
    · exact q_lock _ (dc_ok S G)
    · exact dc_ok S G
  · split
    · exact q_no
    · rename_i hc
      exact q_fld G.fa (h _) (attrBase (by simpa using hc))
  · exact call_ok G h
  · split
    · rename_i hc
      subst hc
      exact q_fmt (h _)
    · exact q_no
  · exact join_ok h
  · exact q_no
end
end Ev
set_option Elab.async false
set_option linter.all false
set_option maxRecDepth 100000
set_option maxHeartbeats 4000000
/-! The evaluator is right: tests, iterators, targets, statements, defs. -/
namespace Ev
open PySem PySem.Spec PyProof.Rows L2
section
variable {P : Px} {adr : Str → Addr} {k : Nat} {T T1 : Tb} {X : Cx} {W : WX} {C : Cm} {v : Ev}
theorem doc_ok {e : Expr} {pos : Pos} (h : isStr e = true) : PS X (.Expr e pos) (rS X W skipS) := by
  cases e with
  | Constant c _ _ =>
    cases c with
    | str x => exact qs_doc
    | _ => cases h
  | _ => cases h
theorem plain_true {e : Expr} {env : Env} (h : plainT e = true) : ∀ whole, isTrue e env whole = (do let v ← whole; standAt e.pos; holding [v] (truthy v)) := fun whole => by
  cases e with
  | UnaryOp op a p => cases op <;> first | rfl | cases h
  | BoolOp _ _ _ => cases h
  | IfExp _ _ _ _ => cases h
  | Compare _ _ _ _ => cases h
  | _ => rfl
theorem subs_eq {o i : Expr} {pos : Pos} {env : Env} (h : isSlice i = false) : ∀ v, assign (.Subscript o i pos) env v = (do
      let ov ← holding [v] (eval o env)
      let iv ← holding [v, ov] (eval i env)
      standAt pos
      holding [v, ov, iv] (setItem ov iv v)
      release [v, ov, iv] []) := fun v => by
  cases i <;> first | rfl | cases h
theorem augs_eq {i : Expr} (h : isSlice i = false) : ∀ ov iv new, augStore i ov iv new = (do holding [new, ov, iv] (setItem ov iv new); release [new, ov, iv] []; pure .next) := fun ov iv new => by
  cases i <;> first | rfl | cases h
theorem stT_ok (S : Sound P adr k T T1 v) (G : Good P adr k T T1 X W C) : ∀ e, PT X e (rT X W (stT P v C e)) := fun e => by
  unfold stT
  split
  · exact qt_not (S.hT X W C _ G)
  · rename_i op vs p
    cases vs with
    | nil => exact qt_no
    | cons a r => exact (boolT_ok (by simp) fun e => S.hT X W C e G).pt
  · exact cmpT_ok G fun e => S.hE X W C e G
  · split
    · rename_i hp
      exact q_truth (S.hE X W C _ G) (plain_true hp)
    · exact qt_no
theorem blt_none (G : Good P adr k T T1 X W C) {x : Str} (h : x = "range" ∨ x = "reversed" ∨ x = "enumerate" ∨ x = "zip") : X.mg x = none := G.bl x (by
  unfold bltNames
  simp only [List.mem_append]
  right
  rcases h with h | h | h | h <;> (subst h; simp))
theorem stI_ok (S : Sound P adr k T T1 v) (G : Good P adr k T T1 X W C) (tg : Expr) : ∀ e, PI X tg e (rI X W (stI P v C tg e)) := fun e => by
  have h := fun e => S.hE X W C e G
  unfold stI
  split
  · rename_i x p es kws pos
    split
    · rename_i hc
      simp only [Bool.and_eq_true] at hc
      obtain ⟨⟨⟨hg, hk⟩, hs⟩, _⟩ := hc
      obtain ⟨g1, g2⟩ := G.gl hg
      cases kws with
      | cons _ _ => exact absurd hk (by simp)
      | nil =>
        have hs' := hs
        unfold noStars at hs'
        split
        · rw [List.all_cons, Bool.and_eq_true] at hs'
          have hst := star_cons (es := []) (env := X.env) (by simpa using hs'.1)
          split
          · rename_i e
            have e : x = "range" := by simpa using e
            subst e
            exact qi_range1 g1 (blt_none G (.inl rfl)) (args_ok h hs) hst
          · split
            · rename_i e
              have e : x = "reversed" := by simpa using e
              subst e
              exact qi_rev g1 (blt_none G (.inr (.inl rfl))) (h _) hst
            · split
              · rename_i e
                rw [Bool.and_eq_true] at e
                have e1 : x = "enumerate" := by simpa using e.1
                subst e1
                cases tg with
                | Tuple elts kk tp => exact qi_enum g1 (blt_none G (.inr (.inr (.inl rfl)))) (args_ok h hs) hst
                | _ => exact absurd e.2 (by simp [isTup])
              · exact qi_no
        · rw [List.all_cons, Bool.and_eq_true, List.all_cons, Bool.and_eq_true] at hs'
          rename_i a b
          have hst2 := star_cons (es := []) (env := X.env) (e := b) (by simpa using hs'.2.1)
          have hst := star_cons (es := [b]) (env := X.env) (e := a) (by simpa using hs'.1)
          split
          · rename_i e
            have e : x = "range" := by simpa using e
            subst e
            exact qi_range2 g1 (blt_none G (.inl rfl)) (args_ok h hs) (by rw [hst, hst2]; rfl) hst2
          · split
            · rename_i e
              rw [Bool.and_eq_true] at e
              have e1 : x = "zip" := by simpa using e.1
              subst e1
              cases tg with
              | Tuple elts kk tp => exact qi_zip2 g1 (blt_none G (.inr (.inr (.inr rfl)))) (args_ok h hs) hst (star_any (es := [b]) (by rw [List.all_cons, hs'.2.1]; rfl))
              | _ => exact absurd e.2 (by simp [isTup])
            · exact qi_no
        · exact qi_no
    · exact qi_any (h _)
  · split
    · rename_i hc
      simp only [Bool.and_eq_true, Bool.not_eq_true'] at hc
      obtain ⟨⟨⟨h1, h2⟩, h3⟩, h4⟩ := hc
      cases eq_of_beq h1
      cases tg with
      | Tuple elts kk tp => exact qi_items (h _) (attrBase h3) h4
      | _ => exact absurd h2 (by simp [isTup])
    · exact qi_any (h _)
  · exact qi_any (h _)
theorem store_ok' (G : Good P adr k T T1 X W C) {x : Str} (h : storeB C x = true) : L2.Loc X.env.scope x ∧ (X.fn x = true ∨ X.env.scope.names.lookup x = some .local) := by
  unfold storeB at h
  unfold L2.Loc
  rw [G.sc]
  split at h
  · rename_i e; exact ⟨.inl e, .inr e⟩
  · rename_i e; exact ⟨.inr e, .inl (by rw [G.fn]; exact h)⟩
  · cases h
theorem gs_ok {f : Expr → List Nat × GD} (h : ∀ e, PG X e (rG X (f e).1 (f e).2)) : ∀ {es : List Expr}, noStars es = true → PGs X es (rGs X (evGs f es).1 (evGs f es).2)
  | [], _ => qgs_nil
  | e :: es, hs => by
    unfold noStars at hs
    rw [List.all_cons, Bool.and_eq_true] at hs
    refine qgs_cons (h e) (gs_ok h (es := es) hs.2) ?_
    rw [assignEach_cons (by simpa using hs.1)]
    rfl
theorem stG_ok (S : Sound P adr k T T1 v) (G : Good P adr k T T1 X W C) : ∀ e, PG X e (rG X (stG v C e).1 (stG v C e).2) := fun e => by
  unfold stG
  split
  · split
    · rename_i hst
      split
      · rename_i i hi
        obtain ⟨h1, h2⟩ := store_ok' G hst
        exact qg_name (pg_name G.nd (by rw [G.N]; exact idx_at hi) h1 h2)
      · exact qg_no
    · exact qg_no
  · split
    · rename_i es _ _ t e
      split
      · exact qg_no
      · rename_i hst
        rw [Bool.or_eq_true, not_or, Bool.not_eq_true, Bool.not_eq_true] at hst
        unfold starOf at e
        split at e
        · cases e
          exact qg_star G.calm (gs_ok (fun e => S.hG X W C e G) (by unfold noStars; rw [List.all_cons, List.all_cons, hst.1, hst.2]; rfl)) hst.1 hst.2
        · cases e
    · split
      · rename_i hs
        obtain ⟨h1, h2⟩ := assignEach_all (env := X.env) hs
        exact qg_tup G.calm (gs_ok (fun e => S.hG X W C e G) hs) h1 h2
      · exact qg_no
  · split
    · exact qg_no
    · rename_i hs
      exact qg_sub G.u1 (S.hE X W C _ G) (S.hE X W C _ G) (subs_eq (by simpa using hs))
  · exact qg_no
theorem ss_ok {f : Stmt → SD} (h : ∀ s, PS X s (rS X W (f s))) : ∀ {ss : List Stmt}, PSs X ss (rS X W (evSs f ss))
  | [] => qs_nil
  | s :: r => qs_cons (h s) (ss_ok h)
theorem kind_fn (G : Good P adr k T T1 X W C) (h : (C.sc.kind == ScopeKind.function) = true) : X.env.blockKind = .function := by
  have e : X.env.scope.kind = .function := by rw [G.sc]; simpa using h
  unfold Env.blockKind
  rw [e]
  rfl
theorem sw_false (G : Good P adr k T T1 X W C) {value : Expr} {x : Str} {p : Pos} {line : Nat} (h : swB C.sc value x p = some false) : swapsWith value (some (.Name x p)) line X.env = pure false := by
  unfold swB at h
  split at h
  · rename_i elt gens s q
    split at h
    · rename_i hk
      have h := Option.some.inj h
      unfold swC at h
      show (pure (X.env.blockKind == .function && X.env.scope.names.lookup x == some .local && p.line == q.line && !(s.names.any fun (n, k) => n == x && (k == .local || k == .cell))) : Sem Bool) = pure false
      rw [G.sc, kind_fn G hk]
      exact congrArg pure h
    · cases h
  · cases h
  · rename_i k1 x1 gens s q
    split at h
    · rename_i hk
      rw [Bool.and_eq_true] at hk
      have h := hk.2
      unfold swC at h
      rw [Bool.not_eq_true'] at h
      show (pure (X.env.blockKind == .function && X.env.scope.names.lookup x == some .local && p.line == q.line && !(s.names.any fun (n, k) => n == x && (k == .local || k == .cell))) : Sem Bool) = pure false
      rw [G.sc, kind_fn G hk.1]
      exact congrArg pure h
    · cases h
  · rename_i h1 h2 h3
    cases value <;> first | rfl | exact absurd rfl (h1 _ _ _ _) | exact absurd rfl (h2 _ _ _ _) | exact absurd rfl (h3 _ _ _ _ _)
theorem sw_true (G : Good P adr k T T1 X W C) {elt : Expr} {gens : List Comprehension} {s : Scope} {q : Pos} {x : Str} {p : Pos} {line : Nat} (h : swB C.sc (.ListComp elt gens s q) x p = some true) :
    swapsWith (.ListComp elt gens s q) (some (.Name x p)) line X.env = pure true ∧ X.env.scope.names.lookup x = some .local := by
  unfold swB at h
  dsimp only at h
  split at h
  · rename_i hk
    have h := Option.some.inj h
    unfold swC at h
    have h0 := h
    simp only [Bool.and_eq_true] at h0
    refine ⟨?_, by rw [G.sc]; simpa using h0.1.1⟩
    show (pure (X.env.blockKind == .function && X.env.scope.names.lookup x == some .local && p.line == q.line && !(s.names.any fun (n, k) => n == x && (k == .local || k == .cell))) : Sem Bool) = pure true
    rw [G.sc, kind_fn G hk]
    exact congrArg pure h
  · cases h
theorem setlc_ok (S : Sound P adr k T T1 v) (G : Good P adr k T T1 X W C) {n i : Nat} {elt : Expr} {scope : Scope} {gens : List Comprehension} {pos spos py : Pos} {y : Str} (hi : idx y C.N = some i) (hsw : swB C.sc (.ListComp elt gens scope pos) y py = some true) :
    PS X (.Assign [.Name y py] (.ListComp elt gens scope pos) spos) (rS X W (asgS (lcE v n C elt scope gens) (gName1 i))) := by
  obtain ⟨h1, h2⟩ := sw_true (line := spos.line) G hsw
  unfold lcE
  split
  · split
    · rename_i tt ht
      split
      · rename_i hb
        rw [Bool.and_eq_true, Bool.and_eq_true, List.all_eq_true] at hb
        obtain ⟨⟨h3, h4⟩, h5⟩ := hb
        exact qs_setLc G.calm G.nd (by rw [G.N]; exact idx_at hi) h2 h1 (S.hI X W C _ _ G) (blk_ok G h3) (fun i hi => by simpa using h4 i hi) (fun s H A cl fp => S.hG _ Wf _ _ (blk_sc G)) (fun s H A cl fp => ifs_ok (fun e => S.hT _ Wf _ e (blk_sc G)) ht) (fun s H A cl fp => S.hE _ Wf _ _ (blk_sc G)) (setNo (by simpa using h5))
      · exact qs_no
    · exact qs_no
  · exact qs_no
theorem par_names (G : Good P adr k T T1 X W C) {ts vs : List Expr} {k1 k2 : Nat} {p1 p2 : Pos} (h : parB C.sc ts vs = true) (hl : (ts.length == 2 || ts.length == 3) = true) (hv : vs.length = ts.length) :
    swappedStores [.Tuple ts k1 p1] (.Tuple vs k2 p2) X.env = pure (some (parNames C.sc ts)) := by
  unfold parB at h
  simp only [Bool.and_eq_true, Bool.not_eq_true', decide_eq_true_eq] at h
  obtain ⟨⟨⟨⟨⟨h1, h2⟩, h3⟩, h4⟩, h5⟩, h6⟩ := h
  have hk := kind_fn G h1
  have hst : (vs.any fun | .Starred .. => true | _ => false) = false := by
    unfold noStars at h2
    rw [List.all_eq_true] at h2
    rw [List.any_eq_false]
    intro e he
    have := h2 e he
    cases e <;> first | exact Bool.false_ne_true | exact absurd this (by simp [isStar])
  have hn : (ts.filterMap fun | .Name id pos => if X.env.kindOf id == some .local && pos.line == (ts.head?.map (·.pos.line)).getD 0 then some id else none | _ => none) = parNames C.sc ts := by
    unfold parNames Env.kindOf
    rw [G.sc]
    exact congrArg (fun g => List.filterMap g ts) (funext fun e => by cases e <;> rfl)
  unfold swappedStores
  dsimp only
  rw [if_neg (by rw [hl, hv, hk]; simp)]
  refine (if_neg fun z => Bool.false_ne_true (hst.symm.trans z)).trans ?_
  have key : ∀ L : List Str, L = parNames C.sc ts → (if (L.length != ts.length || L.eraseDups.length != L.length) = true then (pure none : Sem (Option (List Str))) else if vs.all (foldedForSure 8) = true then pure none else if vs.all (constantsAlone 8) = true then (do unsupported "assign.tuple-of-constant-expressions:order-of-the-stores"; pure (some L)) else pure (some L)) = pure (some (parNames C.sc ts)) := by
    rintro L rfl
    rw [if_neg (by rw [h6]; simp [h5]), if_neg (by rw [h3]; simp), if_neg (by rw [h4]; simp)]
  exact key _ hn
theorem par_one {sc : Scope} {ln : Nat} {t : Str} {q : Pos} (h : ∃ y, parF sc ln (.Name t q) = some y) : sc.names.lookup t = some .local ∧ parF sc ln (.Name t q) = some t := by
  obtain ⟨y, hy⟩ := h
  have hy : (if (sc.names.lookup t == some NameKind.local && q.line == ln) = true then some t else none) = some y := hy
  show _ ∧ (if (sc.names.lookup t == some NameKind.local && q.line == ln) = true then some t else none) = some t
  by_cases c1 : (sc.names.lookup t == some NameKind.local && q.line == ln) = true
  · rw [if_pos c1]
    rw [Bool.and_eq_true] at c1
    exact ⟨by simpa using c1.1, rfl⟩
  · rw [if_neg c1] at hy
    cases hy
theorem fm_full {α β : Type} {f : α → Option β} : ∀ {l : List α}, (l.filterMap f).length = l.length → ∀ e ∈ l, ∃ y, f e = some y
  | [], _, e, he => by cases he
  | a :: l, h, e, he => by
    cases ha : f a with
    | none =>
      rw [List.filterMap_cons_none ha] at h
      have := List.length_filterMap_le f l
      simp at h
      omega
    | some b =>
      rw [List.filterMap_cons_some ha] at h
      rcases List.mem_cons.mp he with rfl | he
      · exact ⟨b, ha⟩
      · exact fm_full (by simpa using h) e he
theorem par_ok (S : Sound P adr k T T1 v) (G : Good P adr k T T1 X W C) {ts vs : List Expr} {k1 k2 : Nat} {p1 p2 pos : Pos} : PS X (.Assign [.Tuple ts k1 p1] (.Tuple vs k2 p2) pos) (rS X W (parE v C ts vs)) := by
  unfold parE
  split
  · rename_i hp
    split
    · rename_i x px y py a b
      split
      · rename_i i j hi hj
        split
        · exact qs_no
        · rename_i hij
          have hn := par_names (k1 := k1) (k2 := k2) (p1 := p1) (p2 := p2) G hp rfl rfl
          have hp' := hp
          unfold parB at hp
          simp only [Bool.and_eq_true, Bool.not_eq_true', decide_eq_true_eq] at hp
          obtain ⟨⟨⟨⟨⟨h1, h2⟩, h3⟩, h4⟩, h5⟩, h6⟩ := hp
          have hx : C.sc.names.lookup x = some .local ∧ C.sc.names.lookup y = some .local ∧ parNames C.sc [.Name x px, .Name y py] = [x, y] := by
            have key := fm_full h5
            obtain ⟨a1, o1⟩ := par_one (key (.Name x px) (by simp))
            obtain ⟨a2, o2⟩ := par_one (key (.Name y py) (by simp))
            refine ⟨a1, a2, ?_⟩
            unfold parNames
            rw [List.filterMap_cons_some o1, List.filterMap_cons_some o2]
            rfl
          rw [hx.2.2] at hn
          exact qs_par G.calm G.nd (by rw [G.N]; exact idx_at hi) (by rw [G.N]; exact idx_at hj) hij (by rw [G.sc]; exact hx.1) (by rw [G.sc]; exact hx.2.1) (args_ok (fun e => S.hE X W C e G) h2) hn (sole (swaps_other rfl))
      · exact qs_no
    · rename_i x px y py z pz a b c
      split
      · rename_i i j l hi hj hl
        split
        · exact qs_no
        · rename_i hij
          rw [not_or, not_or] at hij
          have hn := par_names (k1 := k1) (k2 := k2) (p1 := p1) (p2 := p2) G hp rfl rfl
          unfold parB at hp
          simp only [Bool.and_eq_true, Bool.not_eq_true', decide_eq_true_eq] at hp
          obtain ⟨⟨⟨⟨⟨h1, h2⟩, h3⟩, h4⟩, h5⟩, h6⟩ := hp
          have hx : C.sc.names.lookup x = some .local ∧ C.sc.names.lookup y = some .local ∧ C.sc.names.lookup z = some .local ∧ parNames C.sc [.Name x px, .Name y py, .Name z pz] = [x, y, z] := by
            have key := fm_full h5
            obtain ⟨a1, o1⟩ := par_one (key (.Name x px) (by simp))
            obtain ⟨a2, o2⟩ := par_one (key (.Name y py) (by simp))
            obtain ⟨a3, o3⟩ := par_one (key (.Name z pz) (by simp))
            refine ⟨a1, a2, a3, ?_⟩
            unfold parNames
            rw [List.filterMap_cons_some o1, List.filterMap_cons_some o2, List.filterMap_cons_some o3]
            rfl
          rw [hx.2.2.2] at hn
          exact qs_par3 G.calm G.nd (by rw [G.N]; exact idx_at hi) (by rw [G.N]; exact idx_at hj) (by rw [G.N]; exact idx_at hl) hij.1 hij.2.1 hij.2.2 (by rw [G.sc]; exact hx.1) (by rw [G.sc]; exact hx.2.1) (by rw [G.sc]; exact hx.2.2.1) (args_ok (fun e => S.hE X W C e G) h2) hn (sole (swaps_other rfl))
      · exact qs_no
    · exact qs_no
  · exact qs_no
theorem asg_ok (S : Sound P adr k T T1 v) (G : Good P adr k T T1 X W C) {n : Nat} {tg value : Expr} {pos : Pos} : PS X (.Assign [tg] value pos) (rS X W (asgE P v n C tg value)) := by
  have h := fun e => S.hE X W C e G
  unfold asgE
  split
  · split
    · rename_i hsw hst hi
      obtain ⟨h1, h2⟩ := store_ok' G hst
      exact qs_set G.nd (by rw [G.N]; exact idx_at hi) h1 (h _) (sw_false G hsw) h2
    · rename_i hsw hst hi
      split
      · exact setlc_ok S G hi hsw
      · exact qs_no
    · exact qs_no
  · split
    · exact par_ok S G
    · rename_i hv
      refine qs_asg (h _) (S.hG X W C _ G) (sole (swaps_other rfl)) (stores_none (.inr ?_)) (assignEach_one rfl)
      cases value <;> first | rfl | exact absurd rfl (hv _ _ _)
  · exact qs_fld G.fa (h _) (h _) (swaps_other rfl)
  · split
    · exact qs_no
    · rename_i hs
      exact qs_sub G.u1 (h _) (h _) (h _) (subs_eq (by simpa using hs)) (sole (swaps_other rfl)) (stores_none (.inl rfl)) (assignEach_one rfl)
  · exact qs_no
theorem aug_ok (S : Sound P adr k T T1 v) (G : Good P adr k T T1 X W C) {tg e : Expr} {op : Operator} {pos : Pos} : PS X (.AugAssign tg op e pos) (rS X W (augE P v C tg op e)) := by
  have h := fun e => S.hE X W C e G
  unfold augE
  split
  · split
    · rename_i hst hi
      obtain ⟨h1, h2⟩ := store_ok' G hst
      exact qs_augN G.nd (by rw [G.N]; exact idx_at hi) h1 (h _) h2
    · exact qs_no
  · exact qs_augF G.fa (h _) (h _)
  · split
    · exact qs_no
    · rename_i hs
      exact qs_augS G.u1 (h _) (h _) (h _) (augs_eq (by simpa using hs))
  · exact qs_no
theorem stS_ok (S : Sound P adr k T T1 v) (G : GoodS P adr k T T1 X W C) {n : Nat} : ∀ s, PS X s (rS X W (stS P v n C s)) := fun s => by
  have h := fun e => S.hE X W C e G.toGood
  have hb : ∀ {ss : List Stmt}, PSs X ss (rS X W (evSs (v.S C) ss)) := fun {ss} => ss_ok fun s => S.hS X W C s G
  unfold stS
  split
  · exact qs_pass
  · exact qs_break
  · exact qs_continue
  · split
    · exact qs_no
    · rename_i hc
      split
      · rename_i hs
        exact doc_ok hs
      · exact qs_expr (h _) (swaps_none (by simpa using hc))
  · exact qs_ret (h _)
  · exact qs_retN
  · exact qs_if (S.hT X W C _ G.toGood) hb hb
  · exact asg_ok S G.toGood
  · exact aug_ok S G.toGood
  · split
    · exact qs_no
    · rename_i hs
      exact qs_for G.ps G.calm (S.hI X W C _ _ G.toGood) (S.hG X W C _ G.toGood) hb (setNo (by simpa using hs))
  · exact qs_while G.ps (S.hT X W C _ G.toGood) hb
  · exact qs_try (ss_ok fun s => S.hS X.nox Wf C s (nox_good G.toGood))
  · exact qs_no
theorem noEv_ok : Sound P adr k T T1 noEv := ⟨fun _ _ _ _ _ => q_no, fun _ _ _ _ _ => qt_no, fun _ _ _ _ _ _ => qi_no, fun _ _ _ _ _ => qg_no, fun _ _ _ _ _ => qs_no⟩
theorem stEv_ok {n : Nat} (S : Sound P adr k T T1 v) : Sound P adr k T T1 (stEv P T T1 n v) := ⟨fun _ _ _ e G => stE_ok S G e, fun _ _ _ e G => stT_ok S G e, fun _ _ _ tg e G => stI_ok S G tg e, fun _ _ _ e G => stG_ok S G e, fun _ _ _ s G => stS_ok S G s⟩
theorem evN_ok (n : Nat) : ∀ m, Sound P adr k T T1 (evN P T T1 n m)
  | 0 => noEv_ok
  | m + 1 => stEv_ok (evN_ok n m)
end
end Ev
set_option Elab.async false
set_option linter.all false
set_option maxRecDepth 100000
set_option maxHeartbeats 4000000
/-! The program's defs, by their bodies' evaluation. -/
namespace Ev
open PySem PySem.Spec PyProof.Rows L2

def startE [DecidableEq Str] [DecidableEq Key] [DecidableEq String] [(α : Type) → GetElem? (List α) Nat α fun l i => i < l.length] [(α : Type) → Append (List α)] [(i j : Int) → Decidable (i < j)] [(i j : Int) → Decidable (i ≤ j)] (N : List Str) (ds : List D) : Env1 := ds.map some ++ List.replicate (N.length - ds.length) none
def endB [DecidableEq Str] [DecidableEq Key] [DecidableEq String] [(α : Type) → GetElem? (List α) Nat α fun l i => i < l.length] [(α : Type) → Append (List α)] [(i j : Int) → Decidable (i < j)] [(i j : Int) → Decidable (i ≤ j)] : RS → R D
  | .nx _ M => .ok .non M
  | .rt d M => .ok d M
  | .ex C fs _ M => .ex C fs M
  | _ => .no
def runB [DecidableEq Str] [DecidableEq Key] [DecidableEq String] [(α : Type) → GetElem? (List α) Nat α fun l i => i < l.length] [(α : Type) → Append (List α)] [(i j : Int) → Decidable (i < j)] [(i j : Int) → Decidable (i ≤ j)] (P : Px) (T T1 : Tb) (n m : Nat) (i : FI) (ds : List D) (M : Store) : R D := endB (evSs ((evN P T T1 n m).S ⟨i.N, i.scope, none⟩) i.body (startE i.N ds) M)
def noTb [DecidableEq Str] [DecidableEq Key] [DecidableEq String] [(α : Type) → GetElem? (List α) Nat α fun l i => i < l.length] [(α : Type) → Append (List α)] [(i j : Int) → Decidable (i < j)] [(i j : Int) → Decidable (i ≤ j)] : Tb := fun _ _ _ => .no
/-- the defs, so many calls deep -/
def runF [DecidableEq Str] [DecidableEq Key] [DecidableEq String] [(α : Type) → GetElem? (List α) Nat α fun l i => i < l.length] [(α : Type) → Append (List α)] [(i j : Int) → Decidable (i < j)] [(i j : Int) → Decidable (i ≤ j)] (P : Px) (n m : Nat) : Nat → Tb
  | 0 => noTb
  | 1 => noTb
  | k + 2 => fun key ds M => match P.gf.fns.lookup key with
    | some i => runB P (runF P n m (k + 1)) (runF P n m k) n m i ds M
    | none => .no
theorem start_rep {p : Pw} {ι : List Addr} {H : Hp} {N : List Str} {vs : List V} {ds : List D} (l : RepL p ι H vs ds) : RepE p ι H (L2.start N vs) (startE N ds) := by
  unfold L2.start startE
  have hl := l.length
  refine ⟨by simp [hl], fun i d e => ?_⟩
  by_cases hi : i < ds.length
  · rw [List.getElem?_append_left (by simpa using hi), List.getElem?_map] at e
    cases e2 : ds[i]? with
    | none => rw [e2] at e; cases e
    | some d' =>
      rw [e2] at e
      cases e
      obtain ⟨v, e3, r⟩ := l.get e2
      refine ⟨v, ?_, r⟩
      rw [List.getElem?_append_left (by simpa [hl] using hi), List.getElem?_map, e3]
      rfl
  · rw [List.getElem?_append_right (by simpa using hi), List.getElem?_replicate] at e
    split at e <;> cases e
/-- a def of the text, where no guard stands, by its body -/
theorem def_ok {Pr : Program} {w : World} {K : PySem.W.Frag} {mg : Str → Option Value} {base : Heap} {x qual : Str} {params : Arguments} {body : List Stmt} {scope : Scope} {dvs : List V} {kws : List (Str × V)} {f : Addr} {fd : FuncData} {N ps : List Str} {k : Nat} {sp : Sp}
    (F : FunD K x qual params body scope dvs kws f fd) (Sc : FnScope N ps scope) (len : ∀ vs H Q E, sp vs H Q E → vs.length = ps.length)
    (hb : ∀ (cdv : Value) (A : Around) (outer : List Env) (s : Shared) (H : Hp) (vs : List V) (Q : VK) (E : XK), (A.deeper (envOfC qual scope s.heap.objs.size f cdv)).guards = some [] → Room k (A.deeper (envOfC qual scope s.heap.objs.size f cdv)) → sp vs H Q E →
      ∃ t, PSs (cxOf (L2.CX Pr w) Pr w K mg base N qual scope f cdv A outer s H E) body t ∧ t { nx := fun _ H' => Q .non H', rt := Q } (L2.start N vs) H) : FnG Pr w K mg base (k + 1) f fd ps sp := ⟨len, by
  obtain ⟨oc, od, dV, kV, doc, pm, an, cdv, ct, osl, efd, lk, hcd, hD1, hD2⟩ := F.ex
  subst efd
  intro A outer s H args us vs Q E gd room env0 binds rel hsp
  have inK := env0.mod.kin.keeps fun b o e => (env0.bs b o e).1
  have kinds : ∀ p ∈ ps.zip us, scope.names.lookup p.1 = some .local ∨ scope.names.lookup p.1 = some .cell ∧ ((cellsFrom (s.heap.objs.size + 1) scope.names []).lookup p.1).isSome = true := fun p hp =>
    (Sc.par p.1 (List.of_mem_zip (show (p.1, p.2) ∈ ps.zip us from hp)).1).elim .inl fun c => .inr ⟨c, PySem.W.cellsFrom_some _ _ _ (.inl c)⟩
  refine codeAny_call_function room.depth (inK _ _ lk) rfl Sc.co Sc.gen rfl (PySem.W.codeRec_of inK hcd) (binds _ _ _ _ (wpAny_newFunctionEnv_cells Sc.kind kinds fun env henv s1 call => ?_))
  subst henv
  obtain ⟨t, body_ok, wish⟩ := hb cdv A outer s H vs Q E (guards_deeper gd) (room.deeper _) hsp
  have noLim := (env0.mod.nolimit.keeps fun b o e => (env0.bs b o e).1).keeps call.toInCall.keep
  have st := inv_start (CX := L2.CX Pr w) (E := E) Sc room.hd env0 (len _ _ _ _ hsp) rel call
  refine ⟨noLim, codeAny_func (wpAny_mono (body_ok.run [] s1 (L2.start N vs) H _ st wish) (fun flow s2 post => ?_) fun _ _ z => z)⟩
  cases flow with
  | ret u =>
    obtain ⟨v, σ2, H2, J, rv, q⟩ := post
    exact ⟨v, H2, J.os, J.bare, J.base, J.hok, rv, q⟩
  | next =>
    obtain ⟨σ2, H2, J, q⟩ := post
    exact ⟨V.non, H2, J.os, J.bare, J.base, J.hok, rfl, q⟩
  | brk => exact post.choose_spec.choose_spec.2.elim
  | cont => exact post.choose_spec.choose_spec.2.elim⟩
theorem all_no {Pr : Program} {w : World} {K : PySem.W.Frag} {mg : Str → Option Value} {base : Heap} {gf : Gf} {adr : Str → Addr} {k : Nat} : AllOk Pr w K mg base gf adr k noTb := fun key i fd dvs kws _ _ =>
  ⟨fun vs H Q E ⟨_, _, _, _, _, _, q⟩ => q.elim, fun A outer s H args us vs Q E _ _ _ _ _ ⟨_, _, _, _, _, _, q⟩ => q.elim⟩
/-- what is known of the program behind the top -/
structure World1 (Pr : Program) (w : World) (K : PySem.W.Frag) (mg : Str → Option Value) (P : Px) (adr : Str → Addr) : Prop where
  fa : ∀ X : Cx, X.w = w → X.K = K → X.mg = mg → Facts X P.gf.g
  ff : FactsF Pr w K mg P.gf adr
  bl : ∀ x ∈ bltNames, mg x = none
theorem all_ok {Pr : Program} {w : World} {K : PySem.W.Frag} {mg : Str → Option Value} {base : Heap} {P : Px} {adr : Str → Addr} {n m : Nat} (F : World1 Pr w K mg P adr) : ∀ k, AllOk Pr w K mg base P.gf adr k (runF P n m k)
  | 0 => all_no
  | 1 => all_no
  | k + 2 => fun key i fd dvs kws hi FD => by
    have h1 := all_ok (n := n) (m := m) (base := base) F (k + 1)
    have h0 := all_ok (n := n) (m := m) (base := base) F k
    obtain ⟨fd', dvs', kws', FD', _, _, hp, hs⟩ := F.ff.fn key i hi
    refine def_ok FD hs (fun vs H Q E ⟨ι, M, ds, _, l, e, _⟩ => by rw [l.length]; exact e) fun cdv A outer s H vs Q E gd room ⟨ι, M, ds, rm, l, e, q⟩ => ?_
    generalize hX : cxOf (L2.CX Pr w) Pr w K mg base i.N i.q i.scope (adr key) cdv A outer s H E = X
    have G : GoodS P adr k (runF P n m (k + 1)) (runF P n m k) X (fun cls d _ H => E cls d H) ⟨i.N, i.scope, none⟩ := by
      subst hX
      exact { N := rfl, nd := hs.nd, sc := rfl, fn := fun _ => rfl, calm := rfl, tk := takes_of rfl rfl rfl rfl, fa := F.fa _ rfl rfl rfl, ff := F.ff, ok := h1, ok1 := h0, room := room, gd := gd, bl := F.bl, ps := passes_of rfl }
    refine ⟨_, ss_ok (fun st => (evN_ok n m).hS X _ _ st G), ι, startE i.N ds, M, ?_, ?_, ?_⟩
    · subst hX; exact rm
    · subst hX; exact start_rep l
    · have q2 : Post ⟨K, mg⟩ ι H (Rep ⟨K, mg⟩) Q E (endB (evSs ((evN P (runF P n m (k + 1)) (runF P n m k) n m).S ⟨i.N, i.scope, none⟩) i.body (startE i.N ds) M)) := by
        have q3 := q
        unfold runF at q3
        rw [hi] at q3
        exact q3
      have hpw : pw X = ⟨K, mg⟩ := by subst hX; rfl
      rw [hpw]
      cases er : evSs ((evN P (runF P n m (k + 1)) (runF P n m k) n m).S ⟨i.N, i.scope, none⟩) i.body (startE i.N ds) M with
      | nx ρ M1 => rw [er] at q2; exact fun ι' H' σ' mo rm' _ => q2 ι' H' .non mo rm' .non
      | rt d M1 => rw [er] at q2; exact q2
      | ex c fs ρ M1 => rw [er] at q2; exact fun ι' H' σ' cls d mo rm' _ x => q2 ι' H' cls d mo rm' x
      | bk _ _ => rw [er] at q2; exact q2.elim
      | ct _ _ => rw [er] at q2; exact q2.elim
      | no => rw [er] at q2; exact q2.elim
end Ev
set_option Elab.async false
set_option linter.all false
set_option maxRecDepth 100000
set_option maxHeartbeats 4000000
/-! Contracts in the place of defs. -/
namespace Ev
open PySem PySem.Spec PyProof.Rows L2

/-- defs by contracts: how deep they run, what they do -/
abbrev Ov := List (Str × Nat × (List D → Store → R D))
def runO [DecidableEq Str] [DecidableEq Key] [DecidableEq String] [(α : Type) → GetElem? (List α) Nat α fun l i => i < l.length] [(α : Type) → Append (List α)] [(i j : Int) → Decidable (i < j)] [(i j : Int) → Decidable (i ≤ j)] (P : Px) (ov : Ov) (n m : Nat) : Nat → Tb
  | 0 => noTb
  | 1 => noTb
  | k + 2 => fun key ds M => match ov.lookup key with
    | some q => if Nat.ble q.1 (k + 2) = true then q.2 ds M else .no
    | none => (match P.gf.fns.lookup key with
      | some i => runB P (runO P ov n m (k + 1)) (runO P ov n m k) n m i ds M
      | none => .no)
section
variable {Pr : Program} {w : World} {K : PySem.W.Frag} {mg : Str → Option Value} {base : Heap} {P : Px} {adr : Str → Addr} {n m : Nat} {ov : Ov}
def OvOk (Pr : Program) (w : World) (K : PySem.W.Frag) (mg : Str → Option Value) (base : Heap) (P : Px) (adr : Str → Addr) (ov : Ov) : Prop := ∀ key nd f, ov.lookup key = some (nd, f) → ∀ k i fd dvs kws, nd ≤ k → P.gf.fns.lookup key = some i → FunD K i.x i.q i.params i.body i.scope dvs kws (adr key) fd →
  FnG Pr w K mg base k (adr key) fd (i.P ++ i.Q) (spF ⟨K, mg⟩ (i.P ++ i.Q).length f)
theorem FnG.imp {k : Nat} {f : Addr} {fd : FuncData} {ps : List Str} {sp sp' : Sp} (h : FnG Pr w K mg base k f fd ps sp) (hs : ∀ vs H Q E, sp' vs H Q E → sp vs H Q E) : FnG Pr w K mg base k f fd ps sp' :=
  ⟨fun vs H Q E z => h.len vs H Q E (hs vs H Q E z), fun A outer s H args us vs Q E a b c d e z => h.run A outer s H args us vs Q E a b c d e (hs vs H Q E z)⟩
theorem FnG.mono {k j : Nat} {f : Addr} {fd : FuncData} {ps : List Str} {sp : Sp} (h : FnG Pr w K mg base j f fd ps sp) (hj : j ≤ k) : FnG Pr w K mg base k f fd ps sp :=
  ⟨h.len, fun A outer s H args us vs Q E a b c d e z => h.run A outer s H args us vs Q E a (b.mono hj) c d e z⟩
theorem fng_no {k : Nat} {f : Addr} {fd : FuncData} {ps : List Str} {N : Nat} : FnG Pr w K mg base k f fd ps (spF ⟨K, mg⟩ N fun _ _ => .no) :=
  ⟨fun vs H Q E ⟨_, _, _, _, _, _, q⟩ => q.elim, fun A outer s H args us vs Q E _ _ _ _ _ ⟨_, _, _, _, _, _, q⟩ => q.elim⟩
theorem all_okO (F : World1 Pr w K mg P adr) (hov : OvOk Pr w K mg base P adr ov) : ∀ k, AllOk Pr w K mg base P.gf adr k (runO P ov n m k)
  | 0 => all_no
  | 1 => all_no
  | k + 2 => fun key i fd dvs kws hi FD => by
    have h1 := all_okO F hov (k + 1)
    have h0 := all_okO F hov k
    cases ho : ov.lookup key with
    | some q =>
      obtain ⟨nd, f⟩ := q
      by_cases hk : Nat.ble nd (k + 2) = true
      · refine (hov key nd f ho (k + 2) i fd dvs kws (Nat.le_of_ble_eq_true hk) hi FD).imp fun vs H Q E ⟨ι, M, ds, a, b, c, q⟩ => ⟨ι, M, ds, a, b, c, ?_⟩
        unfold runO at q
        rw [ho] at q
        dsimp only at q
        rw [if_pos hk] at q
        exact q
      · refine fng_no.imp fun vs H Q E ⟨ι, M, ds, a, b, c, q⟩ => ⟨ι, M, ds, a, b, c, ?_⟩
        unfold runO at q
        rw [ho] at q
        dsimp only at q
        rw [if_neg hk] at q
        exact q
    | none =>
    obtain ⟨fd', dvs', kws', FD', _, _, hp, hs⟩ := F.ff.fn key i hi
    refine def_ok FD hs (fun vs H Q E ⟨ι, M, ds, _, l, e, _⟩ => by rw [l.length]; exact e) fun cdv A outer s H vs Q E gd room ⟨ι, M, ds, rm, l, e, q⟩ => ?_
    generalize hX : cxOf (L2.CX Pr w) Pr w K mg base i.N i.q i.scope (adr key) cdv A outer s H E = X
    have G : GoodS P adr k (runO P ov n m (k + 1)) (runO P ov n m k) X (fun cls d _ H => E cls d H) ⟨i.N, i.scope, none⟩ := by
      subst hX
      exact { N := rfl, nd := hs.nd, sc := rfl, fn := fun _ => rfl, calm := rfl, tk := takes_of rfl rfl rfl rfl, fa := F.fa _ rfl rfl rfl, ff := F.ff, ok := h1, ok1 := h0, room := room, gd := gd, bl := F.bl, ps := passes_of rfl }
    refine ⟨_, ss_ok (fun st => (evN_ok n m).hS X _ _ st G), ι, startE i.N ds, M, ?_, ?_, ?_⟩
    · subst hX; exact rm
    · subst hX; exact start_rep l
    · have q2 : Post ⟨K, mg⟩ ι H (Rep ⟨K, mg⟩) Q E (endB (evSs ((evN P (runO P ov n m (k + 1)) (runO P ov n m k) n m).S ⟨i.N, i.scope, none⟩) i.body (startE i.N ds) M)) := by
        have q3 := q
        unfold runO at q3
        rw [ho, hi] at q3
        exact q3
      have hpw : pw X = ⟨K, mg⟩ := by subst hX; rfl
      rw [hpw]
      cases er : evSs ((evN P (runO P ov n m (k + 1)) (runO P ov n m k) n m).S ⟨i.N, i.scope, none⟩) i.body (startE i.N ds) M with
      | nx ρ M1 => rw [er] at q2; exact fun ι' H' σ' mo rm' _ => q2 ι' H' .non mo rm' .non
      | rt d M1 => rw [er] at q2; exact q2
      | ex c fs ρ M1 => rw [er] at q2; exact fun ι' H' σ' cls d mo rm' _ x => q2 ι' H' cls d mo rm' x
      | bk _ _ => rw [er] at q2; exact q2.elim
      | ct _ _ => rw [er] at q2; exact q2.elim
      | no => rw [er] at q2; exact q2.elim

/-! ### one object of the store alone -/
variable {p : Pw} {ι ι1 : List Addr} {H H1 : Hp} {M : Store} {r : Nat} {a : Addr} {o o' : MO} {Q : VK} {E : XK} {d : D} {v : V}
theorem RepM.one (rm : RepM p ι H M) (hr : ι[r]? = some a) (h : RepO p [a] H a o) : RepM p [a] H [o] :=
  ⟨rfl, by simp, fun i b q h1 h2 => by
    cases i with
    | zero => simp at h1 h2; subst h1 h2; exact h
    | succ i => simp at h1⟩
theorem frame1 (rm : RepM p ι H M) (hr : ι[r]? = some a) (q : Post p ι H (Rep p) Q E (.ok d (M.set r o'))) (m : Mono [a] H ι1 H1) (ho : ∀ ι, RepO p ι H1 a o') (hd : ∀ ι, Rep p ι H1 v d) : Q v H1 := by
  have mo : Mono ι H ι H1 := ⟨⟨⟨[], (List.append_nil ι).symm⟩, m.tup, m.frz⟩, fun b hb hn => m.frame b (fun e => hb (by rw [List.mem_singleton.mp e]; exact List.mem_of_getElem? hr)) hn, fun b hb => .inl hb⟩
  refine q ι H1 v mo ⟨by simp [rm.len], rm.nd, fun i b u h1 h2 => ?_⟩ (hd ι)
  by_cases hi : i = r
  · subst hi
    rw [hr] at h1
    cases h1
    have hl : i < M.length := by rw [← rm.len]; exact (List.getElem?_eq_some_iff.mp hr).1
    rw [List.getElem?_set_self hl] at h2
    cases h2
    exact ho ι
  · rw [List.getElem?_set_ne (Ne.symm hi)] at h2
    have nb : b ≠ a := by
      rintro rfl
      obtain ⟨l1, e1⟩ := List.getElem?_eq_some_iff.mp h1
      obtain ⟨l2, e2⟩ := List.getElem?_eq_some_iff.mp hr
      exact hi ((List.getElem_inj rm.nd).mp (e1.trans e2.symm))
    have ro := rm.at_ i b u h1 h2
    obtain ⟨z, hz, _⟩ := ro.at_
    exact ro.mono mo (m.frame b (fun e => nb (List.mem_singleton.mp e)) (by rw [hz]; exact nofun))
/-- a new object: the store with it -/
theorem frameN {b : Addr} (rm : RepM p ι H M) (hr : ι[r]? = some a) (q : Post p ι H (Rep p) Q E (.ok (.ref M.length) (M ++ [o']))) (m : Mono [a] H ι1 H1) (hb : b ∈ ι1) (nb : b ≠ a) (ha : H1 a = H a) (hv : v = .ref b) (ho : ∀ ι, RepO p ι H1 b o') : Q v H1 := by
  have hn : H b = none := (m.fresh b hb).resolve_left fun e => nb (List.mem_singleton.mp e)
  have hnb : b ∉ ι := rm.fresh hn
  have mo : Mono ι H (ι ++ [b]) H1 := ⟨⟨⟨[b], rfl⟩, m.tup, m.frz⟩, fun c hc hn => m.frame c (fun e => hc (by rw [List.mem_singleton.mp e]; exact List.mem_of_getElem? hr)) hn, fun c hc => (List.mem_append.mp hc).imp id fun e => by rw [List.mem_singleton.mp e]; exact hn⟩
  refine q (ι ++ [b]) H1 v mo ⟨by simp [rm.len], ?_, fun i c u h1 h2 => ?_⟩ (hv ▸ .ref (by rw [← rm.len]; simp))
  · rw [List.nodup_append]
    exact ⟨rm.nd, by simp, fun c hc e he => by
      rw [List.mem_singleton] at he
      subst he
      exact fun z => hnb (z ▸ hc)⟩
  · by_cases hi : i < M.length
    · rw [List.getElem?_append_left (by rw [rm.len]; exact hi)] at h1
      rw [List.getElem?_append_left hi] at h2
      have ro := rm.at_ i c u h1 h2
      obtain ⟨z, hz, _⟩ := ro.at_
      refine ro.mono mo ?_
      by_cases hc : c = a
      · rw [hc]; exact ha
      · exact m.frame c (fun e => hc (List.mem_singleton.mp e)) (by rw [hz]; exact nofun)
    · have hl : i = M.length := by
        have := (List.getElem?_eq_some_iff.mp h2).1
        simp at this
        omega
      subst hl
      rw [show (ι ++ [b])[M.length]? = some b by rw [← rm.len]; simp] at h1
      rw [show (M ++ [o'])[M.length]? = some o' by simp] at h2
      cases h1
      cases h2
      exact ho _
end

/-! ### pots -/
/-- one digit, by the tape; ms: of how many it may be asked -/
def digF (ms : List Int) : List D → Store → R D := fun ds M => match ds with
  | [.ref r, .int m] => (match M[r]? with
    | some (.pot ((m', d) :: t)) => if m = m' ∧ m ∈ ms then .ok (.int d) (M.set r (.pot t)) else .no
    | _ => .no)
  | _ => .no
/-- a pot is told whether all is right of what it draws -/
def askF : List D → Store → R D := fun ds M => match ds with
  | [.ref r] => (match M[r]? with
    | some (.pot []) => .ok (.bl true) (M.set r (.pot []))
    | _ => .no)
  | _ => .no
/-- ints up to a place -/
def intsTo : Nat → List D → Bool
  | 0, .int _ :: _ => true
  | n + 1, .int _ :: r => intsTo n r
  | _, _ => false
def potB (j : Nat) (xs : List D) : Bool := match j, xs with
  | 0, [] => true
  | j, xs => intsTo j xs
theorem ints_ex : ∀ {j : Nat} {xs : List D}, intsTo j xs = true → ∃ (ns : List Int) (r : List D), xs = ns.map D.int ++ r ∧ ns.length = j + 1 := by
  intro j
  induction j with
  | zero =>
    intro xs h
    cases xs with
    | nil => cases h
    | cons d r =>
      cases d with
      | int i => exact ⟨[i], r, rfl, rfl⟩
      | _ => cases h
  | succ n ih =>
    intro xs h
    cases xs with
    | nil => cases h
    | cons d r =>
      cases d with
      | int i =>
        obtain ⟨ns, t, e, l⟩ := ih (show intsTo n r = true from h)
        exact ⟨i :: ns, t, by rw [e]; rfl, by rw [List.length_cons, l]⟩
      | _ => cases h
theorem potB_ex {j : Nat} {xs : List D} (h : potB j xs = true) : (j = 0 ∧ xs = []) ∨ ∃ (ns : List Int) (r : List D), xs = ns.map D.int ++ r ∧ ns.length = j + 1 := by
  unfold potB at h
  split at h
  · exact .inl ⟨rfl, rfl⟩
  · exact .inr (ints_ex h)
/-- a pot is made of a list that is only read; km: how many there may be -/
def potF (km : Nat) : List D → Store → R D := fun ds M => match ds with
  | [.ref r, .int (.ofNat j)] => (match M[r]? with
    | some (.ro xs) => if (Nat.blt j km && potB j xs) = true then .ok (.ref M.length) (M ++ [.pot []]) else .no
    | _ => .no)
  | _ => .no
theorem tape_ex : ∀ (ms : List Int) (x y : Int), (∀ m ∈ ms, 0 < m) → ∃ t : List (Int × Int), PotIs x y t ∧ t.map (·.1) = ms ∧ ∀ q ∈ t, 0 ≤ q.2 ∧ q.2 < q.1
  | [], x, y, _ => ⟨[], True.intro, rfl, fun _ h => nomatch h⟩
  | m :: ms, x, y, h => by
    obtain ⟨t, h1, h2, h3⟩ := tape_ex ms (digN x y m).1 (digN x y m).2.1 fun z hz => h z (List.mem_cons_of_mem _ hz)
    refine ⟨(m, (digN x y m).2.2) :: t, ⟨rfl, h1⟩, by rw [List.map_cons, h2], fun q hq => ?_⟩
    rcases List.mem_cons.mp hq with rfl | hq
    · have hm := h m (List.mem_cons_self)
      have hm0 : m ≠ 0 := by omega
      unfold digN
      split
      · exact ⟨Int.emod_nonneg _ hm0, Int.emod_lt_of_pos _ hm⟩
      · exact ⟨Int.emod_nonneg _ hm0, Int.emod_lt_of_pos _ hm⟩
    · exact h3 q hq
theorem runO_any {a a' : DecidableEq Str} {b b' : DecidableEq Key} {c c' : DecidableEq String} {g g' : (α : Type) → GetElem? (List α) Nat α fun l i => i < l.length} {h h' : (α : Type) → Append (List α)} {l l' : (i j : Int) → Decidable (i < j)} {e e' : (i j : Int) → Decidable (i ≤ j)}
    (hg : g = g') (hh : h = h') {P : Px} {ov : Ov} {n m k : Nat} {key : Str} {ds : List D} {M : Store} : @runO a b c g h l e P ov n m k key ds M = @runO a' b' c' g' h' l' e' P ov n m k key ds M := by
  obtain rfl : a = a' := Subsingleton.elim _ _
  obtain rfl : b = b' := Subsingleton.elim _ _
  obtain rfl : c = c' := Subsingleton.elim _ _
  obtain rfl : l = l' := by funext i j; exact Subsingleton.elim _ _
  obtain rfl : e = e' := by funext i j; exact Subsingleton.elim _ _
  subst hg hh
  rfl
theorem runO_fast {P : Px} {ov : Ov} {n m k : Nat} {key : Str} {ds : List D} {M : Store} : @runO fS fK fZ fG fA fL fE P ov n m k key ds M = runO P ov n m k key ds M := runO_any fG_eq fA_eq
section
variable {Pr : Program} {w : World} {K : PySem.W.Frag} {mg : Str → Option Value} {base : Heap} {P : Px} {adr : Str → Addr} {n m : Nat} {ov : Ov}
theorem ovNil : OvOk Pr w K mg base P adr [] := fun _ _ _ h => by cases h
/-- a contract by a run of a smaller store -/
theorem ov_of {f g : List D → Store → R D} {N k : Nat} {a : Addr} {fd : FuncData} {ps : List Str} (h : FnG Pr w K mg base k a fd ps (spF ⟨K, mg⟩ N f))
    (hs : ∀ ι H M vs ds Q E, RepM ⟨K, mg⟩ ι H M → RepL ⟨K, mg⟩ ι H vs ds → ds.length = N → Post ⟨K, mg⟩ ι H (Rep ⟨K, mg⟩) Q E (g ds M) → ∃ ι' M' ds', RepM ⟨K, mg⟩ ι' H M' ∧ RepL ⟨K, mg⟩ ι' H vs ds' ∧ ds'.length = N ∧ Post ⟨K, mg⟩ ι' H (Rep ⟨K, mg⟩) Q E (f ds' M')) :
    FnG Pr w K mg base k a fd ps (spF ⟨K, mg⟩ N g) := h.imp fun vs H Q E ⟨ι, M, ds, h1, h2, h3, h4⟩ => hs ι H M vs ds Q E h1 h2 h3 h4
theorem ov_cons {key : Str} {nd : Nat} {f : List D → Store → R D} (h : ∀ k i fd dvs kws, nd ≤ k → P.gf.fns.lookup key = some i → FunD K i.x i.q i.params i.body i.scope dvs kws (adr key) fd → FnG Pr w K mg base k (adr key) fd (i.P ++ i.Q) (spF ⟨K, mg⟩ (i.P ++ i.Q).length f))
    (r : OvOk Pr w K mg base P adr ov) : OvOk Pr w K mg base P adr ((key, nd, f) :: ov) := fun x nd' f' hx => by
  rw [List.lookup_cons] at hx
  cases e : x == key with
  | true =>
    rw [e] at hx
    cases hx
    rw [beq_iff_eq.mp e]
    exact h
  | false =>
    rw [e] at hx
    exact r x nd' f' hx
/-- the digit's contract -/
theorem dig_ok {ms : List Int} {key : Str} {nd : Nat} (F : World1 Pr w K mg P adr) (hrun : ∀ d ∈ ms, ∀ x y, runO P [] n m nd key [.ref 0, .int d] [.lst [.int x, .int y]] = .ok (.int (digN x y d).2.2) [.lst [.int (digN x y d).1, .int (digN x y d).2.1]]) :
    ∀ k i fd dvs kws, nd ≤ k → P.gf.fns.lookup key = some i → FunD K i.x i.q i.params i.body i.scope dvs kws (adr key) fd → FnG Pr w K mg base k (adr key) fd (i.P ++ i.Q) (spF ⟨K, mg⟩ (i.P ++ i.Q).length (digF ms)) := fun k i fd dvs kws hk hi FD => by
  refine (ov_of (all_okO (n := n) (m := m) F ovNil nd key i fd dvs kws hi FD) fun ι H M vs ds Q E rm rl hl q => ?_).mono hk
  unfold digF at q
  split at q
  · rename_i r d
    split at q
    · rename_i d' z t hM
      split at q
      · rename_i hd
        obtain ⟨rfl, hd⟩ := hd
        obtain ⟨v1, v2, rfl, r1, r2⟩ := rl.two
        cases r1 with
        | @ref a _ hr =>
        cases r2
        obtain ⟨x, y, ha, h1, h2⟩ := rm.at_ r a _ hr hM
        have hz : (digN x y d).2.2 = z := h1
        refine ⟨[a], [.lst [.int x, .int y]], [.ref 0, .int d], rm.one hr ⟨_, ha, .cons (.int x) (.cons (.int y) .nil)⟩, .cons (.ref rfl) (.cons (.int d) .nil), hl, ?_⟩
        rw [hrun d hd x y]
        intro ι1 H1 v m1 rm1 rv
        obtain ⟨t1, e1⟩ := m1.pre
        obtain ⟨vs1, ha1, l1⟩ := rm1.at_ 0 a _ (by rw [e1]; rfl) rfl
        cases l1 with
        | cons q1 l1 =>
        cases l1 with
        | cons q2 l1 =>
        cases l1
        cases q1
        cases q2
        cases rv
        refine frame1 rm hr q m1 (fun _ => ⟨_, _, ha1, h2⟩) fun _ => ?_
        rw [hz]
        exact .int z
      · exact q.elim
    · exact q.elim
  · exact q.elim
/-- the pot's contract -/
theorem pot_ok {km : Nat} {key : Str} {nd : Nat} (F : World1 Pr w K mg P adr) (hrun : ∀ j xs, Nat.blt j km = true → potB j xs = true → ∃ A B, runO P [] n m nd key [.ref 0, .int (.ofNat j)] [.ro xs] = .ok (.ref 1) [.ro xs, .lst [.int A, .int B]]) :
    ∀ k i fd dvs kws, nd ≤ k → P.gf.fns.lookup key = some i → FunD K i.x i.q i.params i.body i.scope dvs kws (adr key) fd → FnG Pr w K mg base k (adr key) fd (i.P ++ i.Q) (spF ⟨K, mg⟩ (i.P ++ i.Q).length (potF km)) := fun k i fd dvs kws hk hi FD => by
  refine (ov_of (all_okO (n := n) (m := m) F ovNil nd key i fd dvs kws hi FD) fun ι H M vs ds Q E rm rl hl q => ?_).mono hk
  unfold potF at q
  split at q
  · rename_i r j
    split at q
    · rename_i xs hM
      split at q
      · rename_i hj
        rw [Bool.and_eq_true] at hj
        obtain ⟨v1, v2, rfl, r1, r2⟩ := rl.two
        cases r1 with
        | @ref a _ hr =>
        cases r2
        obtain ⟨ws, o, ha, l, ns, rfl⟩ := rm.at_ r a _ hr hM
        obtain ⟨A, B, er⟩ := hrun j _ hj.1 hj.2
        have hw := l.ints
        subst hw
        refine ⟨[a], [.ro (ns.map D.int)], [.ref 0, .int (.ofNat j)], rm.one hr ⟨_, o, ha, RepL.of_ints ns, ns, rfl⟩, .cons (.ref rfl) (.cons (.int _) .nil), hl, ?_⟩
        rw [er]
        intro ι1 H1 v m1 rm1 rv
        cases rv with
        | @ref b _ hb =>
        obtain ⟨t1, e1⟩ := m1.pre
        obtain ⟨vs1, ha1, l1⟩ := rm1.at_ 1 b _ hb rfl
        have h0 : ι1[0]? = some a := by rw [e1]; rfl
        have nb : b ≠ a := fun e => by
          obtain ⟨l1, e1⟩ := List.getElem?_eq_some_iff.mp hb
          obtain ⟨l2, e2⟩ := List.getElem?_eq_some_iff.mp h0
          have := (List.getElem_inj rm1.nd).mp ((e1.trans e).trans e2.symm)
          omega
        cases l1 with
        | cons q1 l1 =>
        cases l1 with
        | cons q2 l1 =>
        cases l1
        cases q1
        cases q2
        exact frameN rm hr q m1 (List.mem_of_getElem? hb) nb ((m1.frz a _ _ ha).trans ha.symm) rfl fun _ => ⟨A, B, ha1, True.intro⟩
      · exact q.elim
    · exact q.elim
  · exact q.elim
/-- a pot that is told right, by all tapes -/
theorem ask_ok {ms : List Int} {key : Str} {nd : Nat} (F : World1 Pr w K mg P adr) (hov : OvOk Pr w K mg base P adr ov) (hms : ∀ d ∈ ms, 0 < d)
    (hrun : ∀ t : List (Int × Int), t.map (·.1) = ms → (∀ q ∈ t, 0 ≤ q.2 ∧ q.2 < q.1) → ∃ t' M', runO P ov n m nd key [.ref 0] [.pot t] = .ok (.bl true) (.pot t' :: M')) :
    ∀ k i fd dvs kws, nd ≤ k → P.gf.fns.lookup key = some i → FunD K i.x i.q i.params i.body i.scope dvs kws (adr key) fd → FnG Pr w K mg base k (adr key) fd (i.P ++ i.Q) (spF ⟨K, mg⟩ (i.P ++ i.Q).length askF) := fun k i fd dvs kws hk hi FD => by
  refine (ov_of (all_okO (n := n) (m := m) F hov nd key i fd dvs kws hi FD) fun ι H M vs ds Q E rm rl hl q => ?_).mono hk
  unfold askF at q
  split at q
  · rename_i r
    split at q
    · rename_i hM
      obtain ⟨v1, rfl, r1⟩ := rl.one
      cases r1 with
      | @ref a _ hr =>
      obtain ⟨x, y, ha, _⟩ := rm.at_ r a _ hr hM
      obtain ⟨t, ht, hm1, hm2⟩ := tape_ex ms x y hms
      obtain ⟨t', M', er⟩ := hrun t hm1 hm2
      refine ⟨[a], [.pot t], [.ref 0], rm.one hr ⟨x, y, ha, ht⟩, .cons (.ref rfl) .nil, hl, ?_⟩
      rw [er]
      intro ι1 H1 v m1 rm1 rv
      obtain ⟨t1, e1⟩ := m1.pre
      obtain ⟨x', y', ha1, _⟩ := rm1.at_ 0 a _ (by rw [e1]; rfl) rfl
      cases rv
      exact frame1 rm hr q m1 (fun _ => ⟨x', y', ha1, True.intro⟩) fun _ => .bl true
    · exact q.elim
  · exact q.elim
end
end Ev
set_option Elab.async false
set_option linter.all false
set_option maxRecDepth 100000
set_option maxHeartbeats 4000000
/-! A law's end, by a promise where no guard stands. -/
namespace Ev
open PySem PySem.Spec PyProof.Rows L2

/-- the heap in which the script alone is told -/
def oneH (a : Addr) (vs : List Value) (ns : List Int) : Hp := fun b => if b = a then some (.frz { cls := .type "list", data := .seq vs.toArray } (.lst (ns.map V.int))) else none
theorem oneH_at {a : Addr} {vs : List Value} {ns : List Int} : oneH a vs ns a = some (.frz { cls := .type "list", data := .seq vs.toArray } (.lst (ns.map V.int))) := if_pos rfl
theorem oneH_ne {a b : Addr} {vs : List Value} {ns : List Int} (h : oneH a vs ns b ≠ none) : b = a := by
  by_cases e : b = a
  · exact e
  · exact absurd (if_neg e) h
/-- what the law's def promises of a script -/
def spL : Sp := fun xs H Q _ => ∃ (a : Addr) (o : Obj) (ns : List Int), xs = [.ref a] ∧ H a = some (.frz o (.lst (ns.map V.int))) ∧ ns.length ≤ 63 ∧ ∀ H', Q (.bl true) H'
theorem endG {Pr : Program} {w : World} {K : PySem.W.Frag} {mg mb : Str → Option Value} {k : Nat} {f a : Addr} {fd : FuncData} {x : Str} {s : Shared} {vs : List Value} {ns : List Int}
    (KX : K.In s.heap) (hG : s.heap.Ns mainGlobals mg) (hB : s.heap.Ns builtinsNs mb) (hBB : ∀ x : Str, x ≠ "__name__" → mb x = bootBuiltins x) (hL : s.heap.NoLimit) (hgen : s.gens = #[])
    (ha : s.heap.get? a = some { cls := .type "list", data := .seq vs.toArray }) (hi : IntsAre vs ns) (hlen : ns.length ≤ 63) (hr : Room k callerA) (hKa : K.lookup a = none)
    (F : ∀ base : Heap, K.In base → base.Ns mainGlobals mg → FnG Pr w K mg base k f fd [x] spL) (hbind : ∀ (s : Shared) (b : Addr), K.In s.heap → BindsTo s fd ⟨[.ref b], []⟩ [(x, .ref b)]) :
    codeAny (model Pr w) callerA (.call (.ref f) ⟨[.ref a], []⟩) (fun r s' => r = .ok (.ret (.bool true)) ∧ OldK s.heap s'.heap ∧ s'.os = s.os ∧ AllBare s'.gens) s := by
  have hnone : ∀ {b : Addr}, b ≠ a → oneH a vs ns b = none := fun h => if_neg h
  have keepG : ∀ {b : Addr} {o : Obj}, s.heap.get? b = some o → b ≠ a → (hidT s.heap (oneH a vs ns)).get? b = some o := fun e n => hidT_get e (hnone n)
  have nsOf : ∀ {b : Addr} {mp : Str → Option Value}, s.heap.Ns b mp → (hidT s.heap (oneH a vs ns)).Ns b mp := fun {b mp} ⟨o, es, ep, e, d, r⟩ => by
    refine ⟨o, es, ep, keepG e fun eb => ?_, d, r⟩
    rw [eb, ha] at e
    cases e
    cases (show Data.seq vs.toArray _ = Data.dict es ep from d)
  have inB : K.In (hidT s.heap (oneH a vs ns)) := fun b o e => keepG (KX b o e) fun eb => by
    rw [eb, hKa] at e
    cases e
  have modB : Mod K mg (hidT s.heap (oneH a vs ns)) := ⟨inB, nsOf hG, ⟨mb, nsOf hB, hBB⟩, let ⟨mc, u1, u2⟩ := hL; ⟨mc, nsOf u1, u2⟩⟩
  have hok : HOk Pr w (oneH a vs ns) s.heap := fun b u z => by
    obtain rfl := oneH_ne (b := b) (a := a) (vs := vs) (ns := ns) (by rw [z]; exact nofun)
    rw [oneH_at] at z
    cases z
    exact ⟨ha, by rw [List.length_map]; exact Nat.le_trans hlen (by decide), vs, _, vals_ints hi, ha⟩
  have env : Env0 Pr w K mg (hidT s.heap (oneH a vs ns)) callerA [] s (oneH a vs ns) :=
    ⟨rfl, modB, fun b o e => of_hidT e, Nat.le_of_eq (hidT_size _ _), trivial, fun b hb => absurd (show b ∈ ([] : List Addr) from hb) (by simp), hok, .of_eq hgen⟩
  have told : spL [.ref a] (oneH a vs ns) (fun v _ => v = .bl true) (fun _ _ _ => False) := ⟨a, _, ns, rfl, oneH_at, hlen, fun _ => rfl⟩
  refine codeAny_mono ((F _ inB (nsOf hG)).run callerA [] s _ ⟨[.ref a], []⟩ [.ref a] [.ref a] _ _ rfl hr env (hbind s a KX) (.cons rfl .nil) told) fun r s' h => ?_
  cases r with
  | error e =>
    obtain ⟨_, _, _, _, _, _, _, _, _, _, _, _, no⟩ := h
    exact no.elim
  | ok fl =>
    cases fl with
    | next => exact False.elim h
    | brk => exact False.elim h
    | cont => exact False.elim h
    | ret u =>
      obtain ⟨v, H2, os, bare, un, hok2, rv, ev⟩ := h
      have ev2 : v = .bl true := ev
      subst ev2
      have eu : u = Value.bool true := rv
      subst eu
      refine ⟨rfl, OldK.of_keep fun b o e => ?_, os, bare⟩
      by_cases eb : b = a
      · subst eb
        obtain ⟨e2, _⟩ := hok2 b _ (un.frzs b _ _ oneH_at)
        rw [ha] at e
        cases e
        exact e2
      · exact un.keep b o e (hnone eb) (by intro z; exact absurd (show b ∈ ([] : List Addr) from z) (by simp)) (by simp)
/-- the law's walk from the promise -/
theorem walkG {l : PySem.W.OpenLaw} {k : Nat} {q : Program} {loose : List Str} {XP : (Str → Option Value) → Heap → Prop} {YP : World → Heap → Prop} {d : DefRec} {x : Str}
    (hn : l.most = some 63) (hdf : d.params.defaults = []) (hr : Room k callerA)
    (F : ∀ (w : World) (mg : Str → Option Value) (f : Addr) (h : Heap), YP w h → h.Ns mainGlobals mg → mg d.name = some (.ref f) →
      ∃ (K : PySem.W.Frag) (fd : FuncData), K.In h ∧ (∀ a o, K.lookup a = some o → o.cls ≠ .type "list") ∧ (∀ (s : Shared) (b : Addr), K.In s.heap → BindsTo s fd ⟨[.ref b], []⟩ [(x, .ref b)]) ∧
        ∀ base : Heap, K.In base → base.Ns mainGlobals mg → FnG l.prog w K mg base k f fd [x] spL) :
    PySem.W.WalkO q loose XP YP l.row.toRowW d [] (fun f vs => PySem.call f vs) := by
  refine Att.attach_call hn hdf fun w s₀ s₁ mg mb f o pm cd doc a vs ns G Y ho hd hcd hmg hobj hints hlen hg => ?_
  obtain ⟨K, fd, KX, nl, hb, hF⟩ := F w mg f _ Y G.T.g hmg
  have hKa : K.lookup a = none := by
    cases e : K.lookup a with
    | none => rfl
    | some u =>
      have e2 := KX a u e
      rw [hobj] at e2
      cases e2
      exact absurd rfl (nl a _ e)
  exact endG KX G.T.g G.T.b G.T.builtins G.T.nolimit hg hobj hints hlen hr hKa hF hb
/-- the law's def is right at every script: what its run says -/
theorem law_fng {Pr : Program} {w : World} {K : PySem.W.Frag} {mg : Str → Option Value} {base : Heap} {P : Px} {adr : Str → Addr} {n m k : Nat} {ov : Ov} {i : FI} {fd : FuncData} {dvs : List V} {kws : List (Str × V)} (F : World1 Pr w K mg P adr) (hov : OvOk Pr w K mg base P adr ov)
    (hi : P.gf.fns.lookup ("law" : Str) = some i) (hl : (i.P ++ i.Q).length = 1) (FD : FunD K i.x i.q i.params i.body i.scope dvs kws (adr ("law" : Str)) fd) (hrun : ∀ ns : List Int, ∃ M, runO P ov n m k "law" [.ref 0] [.ro (ns.map D.int)] = .ok (.bl true) M) :
    FnG Pr w K mg base k (adr ("law" : Str)) fd (i.P ++ i.Q) spL :=
  (all_okO (n := n) (m := m) F hov k "law" i fd dvs kws hi FD).imp fun vs H Q E ⟨a, o, ns, e, ha, hn, hq⟩ => by
    subst e
    obtain ⟨M, er⟩ := hrun ns
    refine ⟨[a], [.ro (ns.map D.int)], [.ref 0], ⟨rfl, by simp, fun i b q h1 h2 => ?_⟩, .cons (.ref rfl) .nil, hl.symm, ?_⟩
    · cases i with
      | zero =>
        simp at h1 h2
        subst h1 h2
        exact ⟨_, o, ha, RepL.of_ints ns, ns, rfl⟩
      | succ i => simp at h1
    · rw [er]
      intro ι1 H1 v m1 rm1 rv
      cases rv
      exact hq H1
/-- how the law's def binds the script -/
theorem law_binds {K : PySem.W.Frag} {mg : Str → Option Value} {i : FI} {fd : FuncData} {dvs : List V} {kws : List (Str × V)} {f : Addr} (FD : FunD K i.x i.q i.params i.body i.scope dvs kws f fd) (hp : Plain i.params i.P i.Q) (e1 : i.P = [("_law_script" : Str)]) (e2 : i.Q = []) (e3 : dvs = []) (e4 : kws = []) :
    ∀ (s : Shared) (b : Addr), K.In s.heap → BindsTo s fd ⟨[.ref b], []⟩ [(("_law_script" : Str), .ref b)] := fun s b hs => by
  subst e3 e4
  rw [e1, e2] at hp
  have eb : bindG [("_law_script" : Str)] [] [V.ref b] [] [] [] = some [V.ref b] := by kernel_rfl
  obtain ⟨vals, rv, hb⟩ := bind_fun FD hp (vs := [.ref b]) (us := [.ref b]) (kz := []) (kw := []) (.cons rfl .nil) .nil eb
  cases rv with
  | cons r l =>
    cases l
    have e : _ = Value.ref b := r
    subst e
    exact hb s hs
end Ev
set_option Elab.async false
set_option linter.all false
set_option maxRecDepth 100000
set_option maxHeartbeats 4000000
/-! What is known of the program behind the top, by looks at a part of the heap. -/
namespace Ev
open PySem PySem.Spec PyProof.Rows L2

def adrK [DecidableEq Str] [DecidableEq Key] [DecidableEq String] [(α : Type) → GetElem? (List α) Nat α fun l i => i < l.length] [(α : Type) → Append (List α)] [(i j : Int) → Decidable (i < j)] [(i j : Int) → Decidable (i ≤ j)] (K : PySem.W.Frag) (ats : Ats) (k : Str) : Addr := match ats.lookup k with
  | some p => He.fAd K p
  | none => 0
section
variable {K : PySem.W.Frag} {h : Heap} {mg : Str → Option Value}
mutual
theorem repB_ok (X : K.In h) (G : h.Ns mainGlobals mg) : ∀ {d : D} {u : Value}, repB K d u = true → ∃ v, RelV v u ∧ ∀ ι H, Rep ⟨K, mg⟩ ι H v d
  | .non, u, e => by
    cases u <;> first | exact ⟨.non, rfl, fun _ _ => .non⟩ | (unfold repB at e; cases e)
  | .bl b, u, e => by
    cases u <;> first | (unfold repB at e; exact ⟨.bl b, by rw [beq_iff_eq.mp e]; rfl, fun _ _ => .bl b⟩) | (unfold repB at e; cases e)
  | .int i, u, e => by
    cases u <;> first | (unfold repB at e; exact ⟨.int i, ⟨_, by rw [of_decide_eq_true e]⟩, fun _ _ => .int i⟩) | (unfold repB at e; cases e)
  | .str x, u, e => by
    cases u <;> first | (unfold repB at e; exact ⟨.str x, ⟨_, by rw [of_decide_eq_true e]⟩, fun _ _ => .str x⟩) | (unfold repB at e; cases e)
  | .gl x, u, e => by
    cases u with
    | ref a =>
      unfold repB at e
      exact ⟨.ref a, rfl, fun _ _ => .gl (PySem.W.mg_of X G (eqV_ok e)) rfl⟩
    | _ => unfold repB at e; cases e
  | .kt ds, u, e => by
    cases u with
    | ref a =>
      unfold repB at e
      cases q : K.lookup a with
      | none => rw [q] at e; cases e
      | some o =>
        obtain ⟨oc, od, dt, sl⟩ := o
        rw [q] at e
        cases oc with
        | type c =>
          cases od with
          | none =>
            cases dt with
            | seq its n =>
              obtain ⟨h1, h2⟩ := He.ba (show (decide (c = "tuple") && (decide (its.size ≤ sizeLine) && repsB K ds its.toList)) = true from e)
              obtain ⟨h3, h4⟩ := He.ba h2
              obtain ⟨vs, l1, l2⟩ := repsB_ok X G h4
              exact ⟨.ref a, rfl, fun ι H => .kt ⟨_, its, n, q, congrArg Value.type (of_decide_eq_true h1), rfl, of_decide_eq_true h3, l1, rfl⟩ (l2 ι H)⟩
            | _ => cases e
          | some _ => cases dt <;> cases e
        | _ => cases od <;> cases dt <;> cases e
    | _ => unfold repB at e; cases e
  | .tup _, u, e => by unfold repB at e; cases e
  | .ref _, u, e => by unfold repB at e; cases e
  | .ty _, u, e => by unfold repB at e; cases e
theorem repsB_ok (X : K.In h) (G : h.Ns mainGlobals mg) : ∀ {ds : List D} {us : List Value}, repsB K ds us = true → ∃ vs, Vals vs us ∧ ∀ ι H, RepL ⟨K, mg⟩ ι H vs ds
  | [], [], _ => ⟨[], .nil, fun _ _ => .nil⟩
  | [], _ :: _, e => by unfold repsB at e; cases e
  | _ :: _, [], e => by unfold repsB at e; cases e
  | d :: ds, u :: us, e => by
    unfold repsB at e
    obtain ⟨h1, h2⟩ := He.ba e
    obtain ⟨v, a1, a2⟩ := repB_ok X G h1
    obtain ⟨vs, b1, b2⟩ := repsB_ok X G h2
    exact ⟨v :: vs, .cons a1 b1, fun ι H => .cons (a2 ι H) (b2 ι H)⟩
end
end
theorem atG_ok {K : PySem.W.Frag} {x : Str} {f : Value → Bool} (h : atG K x f = true) : ∃ u, PySem.W.nsIn K mainGlobals x = some (some u) ∧ f u = true := by
  unfold atG at h
  split at h
  · exact ⟨_, by assumption, h⟩
  · cases h
theorem lookup_in {α : Type} {x : Str} {d : α} : ∀ {l : List (Str × α)}, l.lookup x = some d → (x, d) ∈ l
  | (y, e) :: r, h => by
    rw [List.lookup_cons] at h
    cases q : x == y with
    | true => rw [q] at h; cases h; rw [beq_iff_eq.mp q]; exact List.mem_cons_self
    | false =>
      rw [q] at h
      exact List.mem_cons_of_mem _ (lookup_in (show r.lookup x = some d from h))
theorem lookup_mem {α : Type} {x : Str} {d : α} {l : List (Str × α)} (h : l.lookup x = some d) : ∃ q ∈ l, q.1 = x := ⟨_, lookup_in h, rfl⟩
theorem allL_ok {α : Type} {l : List (Str × α)} {f : Str → α → Bool} (h : allL l f = true) {x : Str} {d : α} (e : l.lookup x = some d) : f x d = true := List.all_eq_true.mp h _ (lookup_in e)
theorem repX_ok {K : PySem.W.Frag} {x : Str} {d : D} {u : Value} (hx : PySem.W.nsIn K mainGlobals x = some (some u)) (h : repX K x d u = true) : repB K d u = true := by
  unfold repX at h
  split at h
  · split at h
    · rename_i e
      subst e
      unfold repB gloB eqV
      exact decide_eq_true hx
    · unfold repB
      exact h
  · exact h
theorem tgV_eq {K : PySem.W.Frag} : ∀ {l : List Tg} {k : List (Tg × Value) → Bool}, tgV K l k = k (l.map fun t => (t, t.v K))
  | [], _ => rfl
  | .ty n :: r, k => by
    show tgV K r (fun l => k ((.ty n, .type n) :: l)) = _
    rw [tgV_eq]
    rfl
  | .own c :: r, k => by
    show fr (He.ga K c) (fun C => tgV K r fun l => k ((.own c, .ref C) :: l)) = _
    rw [fr_eq, tgV_eq]
    rfl
theorem tgs_mem {g : Pg} : ∀ {t : Tg}, (∀ n, t = .ty n → n ∈ tgNames) → (∀ n, t = .own n → (g.cls.lookup n).isSome) → t ∈ tgs g
  | .ty n, h, _ => List.mem_append.mpr (.inl (List.mem_map.mpr ⟨n, h n rfl, rfl⟩))
  | .own c, _, h => by
    obtain ⟨d, e⟩ := Option.isSome_iff_exists.mp (h c rfl)
    obtain ⟨q, hq, e2⟩ := lookup_mem e
    exact List.mem_append.mpr (.inr (List.mem_map.mpr ⟨q, hq, by rw [e2]⟩))
theorem find_none {P : Params} {z : Str} : ∀ {l : List DictEntry} {ks : List Str}, l.map He.keyOf = He.keysIn P ks → z ∉ ks → l.find? (·.key.isStr z) = none ∧ l.any (·.refKey) = false
  | [], _, _, _ => ⟨rfl, rfl⟩
  | e :: r, [], h, _ => by cases h
  | e :: r, k :: ks, h, hz => by
    have h1 : He.keyOf e :: r.map He.keyOf = some (k, PyData.keyHash P k) :: He.keysIn P ks := h
    injection h1 with h2 h3
    obtain ⟨a, b⟩ := find_none h3 fun m => hz (List.mem_cons_of_mem _ m)
    unfold He.keyOf at h2
    split at h2
    · rename_i x t q
      have h5 := (Prod.mk.inj (Option.some.inj h2)).1
      have hx : x ≠ z := fun e => hz (by rw [← e, h5]; exact List.mem_cons_self)
      refine ⟨?_, ?_⟩
      · rw [List.find?_cons, q]
        have : (Value.str x t).isStr z = false := by
          show (x == z) = false
          exact beq_eq_false_iff_ne.mpr hx
        rw [this]
        exact a
      · rw [List.any_cons, b, Bool.or_false]
        unfold DictEntry.refKey
        rw [q]
    · cases h2
theorem facts_of {X : Cx} {g : Pg} {h : Heap} (KX : X.K.In h) (G : h.Ns mainGlobals X.mg) (h1 : valB X.K g = true) (h2 : tabB X.K g = true) (h3 : tabK X.K g = tabW X.w g) (h4 : clsB X.K g = true) (h5 : descB X.K = true) (h6 : isiB X.K g = true) : Facts X g where
  val x d e := by
    obtain ⟨u, a, b⟩ := atG_ok (allL_ok h1 e)
    obtain ⟨v, r1, r2⟩ := repB_ok KX G (repX_ok a b)
    exact ⟨u, v, PySem.W.mg_of KX G a, r1, r2⟩
  tab x kvs e := by
    obtain ⟨u, a, b⟩ := atG_ok (allL_ok h2 e)
    split at b
    · rename_i d
      obtain ⟨b1, b2⟩ := He.ba b
      have ed : d = He.ga X.K x := of_decide_eq_true b1
      have hd : He.dicW X.K d = some (He.keysIn X.w.params (kvs.map (·.1))) := by
        have hm : ∃ i : Nat, g.tab[i]? = some (x, kvs) := List.mem_iff_getElem?.mp (lookup_in e)
        obtain ⟨i, hi⟩ := hm
        have e3 : (tabK X.K g)[i]? = (tabW X.w g)[i]? := by rw [h3]
        unfold tabK tabW at e3
        rw [List.getElem?_map, List.getElem?_map, hi] at e3
        rw [ed]
        exact Option.some.inj e3
      obtain ⟨es, n, kd⟩ := He.dicW_ok hd
      refine ⟨d, es, n, PySem.W.mg_of KX G a, kd, fun z => ?_⟩
      cases ez : kvs.lookup z with
      | some w =>
        have c := allL_ok b2 ez
        split at c
        · rename_i u hu
          obtain ⟨v, r1, r2⟩ := repB_ok KX G c
          exact .inl ⟨w, u, v, rfl, hu, r1, r2⟩
        · cases c
      | none =>
        refine .inr ⟨rfl, ?_⟩
        have hkeys : es.toList.map He.keyOf = He.keysIn X.w.params (kvs.map (·.1)) := by
          unfold He.dicW at hd
          rw [kd.at_] at hd
          dsimp only at hd
          split at hd
          · exact Option.some.inj hd
          · cases hd
        have nz : z ∉ kvs.map (·.1) := fun m => by
          obtain ⟨q, hq, rfl⟩ := List.mem_map.mp m
          have : ∀ {l : List (Str × D)}, q ∈ l → l.lookup q.1 ≠ none := by
            intro l
            induction l with
            | nil => intro z; cases z
            | cons y r ih =>
              intro z
              obtain ⟨y1, y2⟩ := y
              rw [List.lookup_cons]
              cases qq : q.1 == y1 with
              | true => exact nofun
              | false =>
                rcases List.mem_cons.mp z with rfl | z
                · simp at qq
                · exact ih z
          exact this hq ez
        obtain ⟨f1, f2⟩ := find_none hkeys nz
        unfold PySem.W.nsIn
        rw [kd.at_]
        dsimp only
        rw [f1, f2]
        rfl
    · cases b
  cls c i e := by
    have b := allL_ok h4 e
    rw [fr_eq] at b
    obtain ⟨c1, b⟩ := He.ba b
    obtain ⟨c2, b⟩ := He.ba b
    obtain ⟨c3, b⟩ := He.ba b
    obtain ⟨c4, b⟩ := He.ba b
    obtain ⟨c5, c6⟩ := He.ba b
    exact ⟨He.glo_ok (x := c) KX G c1, He.cls_ok (x := c) c2, He.keep_ok (x := c) c3, fun f hf => He.noat_ok (x := c) (f := f) (List.all_eq_true.mp c4 f hf), eqV_ok c5, of_decide_eq_true c6⟩
  desc := by
    obtain ⟨a, b⟩ := He.ba h5
    exact ⟨eqV_ok a, of_decide_eq_true b⟩
  isi t c a1 a2 a3 a4 := by
    unfold isiB at h6
    rw [tgV_eq] at h6
    have := List.all_eq_true.mp (List.all_eq_true.mp h6 _ (List.mem_map.mpr ⟨t, tgs_mem a1 a3, rfl⟩)) _ (List.mem_map.mpr ⟨c, tgs_mem a2 a4, rfl⟩)
    exact of_decide_eq_true this
end Ev
set_option Elab.async false
set_option linter.all false
set_option maxRecDepth 100000
set_option maxHeartbeats 4000000
/-! The same for the defs and classes. -/
namespace Ev
open PySem PySem.Spec PyProof.Rows L2

theorem dvD_rep {p : Pw} {K : PySem.W.Frag} {d : D} (h : (dvD d).isSome = true) (ι : List Addr) (H : Hp) : Rep p ι H ((dvO d).v K) d := by
  cases d <;> first | exact .non | exact .bl _ | exact .int _ | exact .str _ | cases h
theorem plainB_ok {i : FI} (h : plainB i = true) : Plain i.params i.P i.Q := by
  obtain ⟨a, h⟩ := He.ba h
  obtain ⟨b, h⟩ := He.ba h
  obtain ⟨c, h⟩ := He.ba h
  obtain ⟨d, e⟩ := He.ba h
  exact ⟨List.isEmpty_iff.mp a, Option.isNone_iff_eq_none.mp b, Option.isNone_iff_eq_none.mp c, of_decide_eq_true d, of_decide_eq_true e⟩
theorem nodB_ok : ∀ {l : List Str}, nodB l = true → l.Nodup
  | [], _ => List.nodup_nil
  | x :: r, h => by
    obtain ⟨a, b⟩ := He.ba h
    exact List.nodup_cons.mpr ⟨fun m => by simp [m] at a, nodB_ok b⟩
theorem scopeB_ok {N ps : List Str} {sc : Scope} (h : scopeB N ps sc = true) : FnScope N ps sc := by
  obtain ⟨a, h⟩ := He.ba h
  obtain ⟨b, h⟩ := He.ba h
  obtain ⟨c, h⟩ := He.ba h
  obtain ⟨d, h⟩ := He.ba h
  obtain ⟨e, h⟩ := He.ba h
  obtain ⟨f, g⟩ := He.ba h
  refine ⟨of_decide_eq_true a, by simpa using b, by simpa using c, nodB_ok d, of_decide_eq_true e, fun x hx => ?_, fun y hy => of_decide_eq_true (List.all_eq_true.mp g y hy)⟩
  have := List.all_eq_true.mp f x hx
  cases q : sc.names.lookup x with
  | none => rw [q] at this; cases this
  | some k =>
    rw [q] at this
    cases k <;> first | exact .inl rfl | exact .inr rfl | cases this
theorem fAt_eq {α : Type} {K : PySem.W.Frag} {at_ : Str × Option Str} {k : Addr → α} : fAt K at_ k = k (He.fAd K at_) := by
  obtain ⟨x, m⟩ := at_
  cases m <;> exact fr_eq _ _
theorem mask_mem {a : Addr} : ∀ {as : List Addr}, (maskL as).testBit a = true → a ∈ as
  | [], h => by unfold maskL at h; rw [Nat.zero_testBit] at h; cases h
  | b :: r, h => by
    unfold maskL at h
    rw [Nat.testBit_or, Bool.or_eq_true] at h
    rcases h with h | h
    · exact List.mem_cons_of_mem _ (mask_mem h)
    · rw [Nat.one_shiftLeft, Nat.testBit_two_pow] at h
      rw [of_decide_eq_true h]
      exact List.mem_cons_self
theorem frG_look {g : Addr → Option Obj} {a : Addr} : ∀ {as : List Addr}, a ∈ as → (He.frG g as).lookup a = g a
  | b :: r, h => by
    have out : ∀ {l : List Addr}, g a = none → (He.frG g l).lookup a = none := fun {l} hn => by
      cases e : (He.frG g l).lookup a with
      | none => rfl
      | some o => rw [He.frG_at l e] at hn; cases hn
    cases hb : g b with
    | none =>
      have e : He.frG g (b :: r) = He.frG g r := by unfold He.frG; rw [List.filterMap_cons, hb]; rfl
      rw [e]
      rcases List.mem_cons.mp h with rfl | h
      · rw [hb]; exact out hb
      · exact frG_look h
    | some o =>
      have e : He.frG g (b :: r) = (b, o) :: He.frG g r := by unfold He.frG; rw [List.filterMap_cons, hb]; rfl
      rw [e, List.lookup_cons]
      cases q : a == b with
      | true => rw [beq_iff_eq.mp q, hb]
      | false =>
        rcases List.mem_cons.mp h with rfl | h
        · simp at q
        · exact frG_look h
theorem okG_ok {g : Addr → Option Obj} {as : List Addr} {d : He.DefD} {a : Addr} (h : okG g (maskL as) (He.frG g as) d a = true) : okA (He.frG g as) d a = true ∧ fnA (He.frG g as) a = fnG g a := by
  obtain ⟨h1, h2⟩ := He.ba h
  have e := frG_look (g := g) (mask_mem h1)
  refine ⟨?_, by unfold fnA fnG; rw [e]⟩
  split at h2
  · rename_i oc od fd sl q
    obtain ⟨h3, h4⟩ := He.ba h2
    unfold okA PySem.W.keepIn
    dsimp only
    rw [e, q]
    dsimp only
    rw [h4, Bool.and_true, Bool.true_and]
    split at h3
    · rename_i c hc
      obtain ⟨h5, h6⟩ := He.ba h3
      unfold PySem.W.codeIn
      rw [hc]
      dsimp only
      rw [frG_look (g := g) (mask_mem h5)]
      exact h6
    · cases h3
  · cases h2
theorem isG_ok {g : Addr → Option Obj} {as : List Addr} {a : Addr} (h : isG g (maskL as) a = true) : PySem.W.isFn (He.frG g as) (.ref a) = true ∧ PySem.W.keepIn (He.frG g as) (.ref a) = true := by
  obtain ⟨h1, h2⟩ := He.ba h
  have e := frG_look (g := g) (mask_mem h1)
  split at h2
  · rename_i n od fd sl q
    refine ⟨?_, ?_⟩
    · unfold PySem.W.isFn PySem.W.typeIn
      dsimp only
      rw [e, q, beq_iff_eq.mp h2]
      exact beq_self_eq_true _
    · unfold PySem.W.keepIn
      dsimp only
      rw [e, q]
  · cases h2
theorem fnBg_ok {g : Addr → Option Obj} {as : List Addr} {ats : Ats} {gf : Gf} (h : fnBg g (maskL as) (He.frG g as) ats gf = true) : fnB (He.frG g as) ats gf = true ∧ fnsK (He.frG g as) ats gf = fnsG g (He.frG g as) ats gf := by
  refine ⟨List.all_eq_true.mpr fun p hp => ?_, List.map_congr_left fun p hp => ?_⟩
  · have := List.all_eq_true.mp h p hp
    obtain ⟨⟨k, i⟩, ⟨k', at_⟩⟩ := p
    dsimp only at this ⊢
    rw [fAt_eq] at this ⊢
    obtain ⟨h1, h2⟩ := He.ba this
    rw [(okG_ok h1).1, h2]
    rfl
  · have := List.all_eq_true.mp h p hp
    obtain ⟨⟨k, i⟩, ⟨k', at_⟩⟩ := p
    dsimp only at this ⊢
    rw [fAt_eq] at this
    obtain ⟨h1, h2⟩ := He.ba this
    rw [fAt_eq, fAt_eq]
    exact (okG_ok h1).2
theorem mtBg_ok {g : Addr → Option Obj} {as : List Addr} {ats : Ats} {gf : Gf} (h : mtBg g (maskL as) (He.frG g as) ats gf = true) : mtB (He.frG g as) ats gf = true := by
  refine List.all_eq_true.mpr fun p hp => ?_
  have := List.all_eq_true.mp h p hp
  obtain ⟨c, ms⟩ := p
  dsimp only at this ⊢
  rw [fr_eq] at this ⊢
  obtain ⟨h1, h2⟩ := He.ba this
  refine Bool.and_eq_true_iff.mpr ⟨h1, List.all_eq_true.mpr fun q hq => ?_⟩
  have h3 := List.all_eq_true.mp h2 q hq
  obtain ⟨m, k⟩ := q
  dsimp only at h3 ⊢
  rw [fAt_eq] at h3 ⊢
  obtain ⟨h4, h5⟩ := He.ba h3
  rw [h4, (isG_ok h5).1, (isG_ok h5).2]
  rfl
theorem noLs_ok {K : PySem.W.Frag} (h : noLs K = true) : ∀ a o, K.lookup a = some o → o.cls ≠ .type "list" := fun a o e z => by
  have m : (a, o) ∈ K := by
    clear h
    induction K with
    | nil => cases e
    | cons q r ih =>
      obtain ⟨b, u⟩ := q
      rw [List.lookup_cons] at e
      cases c : a == b with
      | true => rw [c] at e; cases e; rw [beq_iff_eq.mp c]; exact List.mem_cons_self
      | false => rw [c] at e; exact List.mem_cons_of_mem _ (ih e)
  have := List.all_eq_true.mp h _ m
  dsimp only at this
  rw [z] at this
  exact absurd this (by decide)
theorem world_of {Pr : Program} {w : World} {K : PySem.W.Frag} {mg : Str → Option Value} {P : Px} {ats : Ats} {h : Heap} (KX : K.In h) (G : h.Ns mainGlobals mg) (hf : fixB ats P.gf = true) (ha : allB K ats P.gf = true) (ht : tabK K P.gf.g = tabW w P.gf.g) (hn : fnsK K ats P.gf = fnsV ats P.gf) :
    World1 Pr w K mg P fun k => He.fAd K (atK ats k) := by
  obtain ⟨a1, ha⟩ := He.ba ha
  obtain ⟨a2, ha⟩ := He.ba ha
  obtain ⟨a3, ha⟩ := He.ba ha
  obtain ⟨a4, ha⟩ := He.ba ha
  obtain ⟨a5, ha⟩ := He.ba ha
  obtain ⟨a6, ha⟩ := He.ba ha
  obtain ⟨a7, ha⟩ := He.ba ha
  obtain ⟨a8, ha⟩ := He.ba ha
  obtain ⟨a9, ha⟩ := He.ba ha
  obtain ⟨a10, a11⟩ := He.ba ha
  obtain ⟨hz, hf⟩ := He.ba hf
  obtain ⟨hz1, hz2⟩ := He.ba hz
  have hlen : P.gf.fns.length = ats.length := of_decide_eq_true hz1
  have zip : ∀ k i, P.gf.fns.lookup k = some i → ∃ j : Nat, (P.gf.fns.zip ats)[j]? = some ((k, i), (k, atK ats k)) := fun k i e => by
    obtain ⟨j, hj⟩ := List.mem_iff_getElem?.mp (lookup_in e)
    have hl : j < ats.length := by rw [← hlen]; exact (List.getElem?_eq_some_iff.mp hj).1
    have hq : (P.gf.fns.zip ats)[j]? = some ((k, i), ats[j]) := by
      rw [List.getElem?_zip_eq_some]
      exact ⟨hj, List.getElem?_eq_getElem hl⟩
    obtain ⟨c1, c2⟩ := He.ba (List.all_eq_true.mp hz2 _ (List.mem_of_getElem? hq))
    refine ⟨j, hq.trans ?_⟩
    have d1 : k = ats[j].1 := of_decide_eq_true c1
    have d2 : atK ats k = ats[j].2 := of_decide_eq_true c2
    rw [show ats[j] = (k, atK ats k) from Prod.ext d1.symm d2.symm]
  have fnb : ∀ k i, P.gf.fns.lookup k = some i → (dfOf (atK ats k) i).ok K = true ∧ (!i.top || eqV (PySem.W.nsIn K mainGlobals k) (some (some (.ref (He.fAd K (atK ats k)))))) = true ∧ He.fnW K (atK ats k) = (dfOf (atK ats k) i).val := fun k i e => by
    obtain ⟨j, hj⟩ := zip k i e
    have c0 := List.all_eq_true.mp a6 _ (List.mem_of_getElem? hj)
    dsimp only at c0
    rw [fAt_eq] at c0
    obtain ⟨c1, c2⟩ := He.ba c0
    have e3 : (fnsK K ats P.gf)[j]? = (fnsV ats P.gf)[j]? := by rw [hn]
    unfold fnsK fnsV at e3
    rw [List.getElem?_map, List.getElem?_map, hj] at e3
    have e4 : fAt K (atK ats k) (fnA K) = (dfOf (atK ats k) i).val := Option.some.inj e3
    rw [fAt_eq] at e4
    exact ⟨c1, c2, e4⟩
  refine ⟨fun X e1 e2 e3 => ?_, ⟨fun k i e => ?_, fun k i e et => ?_, fun c ms m k e1 e2 => ?_, fun c e => ?_, fun c k e => ?_⟩, fun x hx => ?_⟩
  · subst e1 e2 e3
    exact facts_of KX G a1 a2 ht a3 a4 a5
  · obtain ⟨b1, b⟩ := He.ba (allL_ok hf e)
    obtain ⟨b2, b⟩ := He.ba b
    obtain ⟨b3, b⟩ := He.ba b
    obtain ⟨b4, _⟩ := He.ba b
    obtain ⟨c1, _, c3⟩ := fnb k i e
    obtain ⟨fd, FD⟩ := He.DefD.funD (d := dfOf (atK ats k) i) c3 c1
    refine ⟨fd, _, _, FD, fun ι H => ?_, fun ι H => ?_, plainB_ok b1, scopeB_ok b2⟩
    · show RepL _ ι H ((i.dvs.map dvO).map (He.Dv.v K)) i.dvs
      clear FD c3 c1
      generalize i.dvs = l at b3
      induction l with
      | nil => exact .nil
      | cons d r ih =>
        rw [List.all_cons, Bool.and_eq_true] at b3
        exact .cons (dvD_rep b3.1 ι H) (ih b3.2)
    · show RepK _ ι H ((i.kws.map fun q => (q.1, dvO q.2)).map fun q => (q.1, q.2.v K)) i.kws
      clear FD c3 c1
      generalize i.kws = l at b4
      induction l with
      | nil => exact .nil
      | cons d r ih =>
        rw [List.all_cons, Bool.and_eq_true] at b4
        exact .cons (dvD_rep b4.1 ι H) (ih b4.2)
  · obtain ⟨b1, b⟩ := He.ba (allL_ok hf e)
    obtain ⟨b2, b⟩ := He.ba b
    obtain ⟨b3, b⟩ := He.ba b
    obtain ⟨b4, b5⟩ := He.ba b
    obtain ⟨_, c2, _⟩ := fnb k i e
    rw [et] at b5 c2
    have e5 : ats.lookup k = some (k, none) := of_decide_eq_true (by simpa using b5)
    have hg := eqV_ok (show eqV (PySem.W.nsIn K mainGlobals k) (some (some (.ref (He.fAd K (atK ats k))))) = true by simpa using c2)
    exact PySem.W.mg_of KX G hg
  · have b0 := allL_ok a7 e1
    rw [fr_eq] at b0
    obtain ⟨b1, b2⟩ := He.ba b0
    have c0 := allL_ok b2 e2
    rw [fAt_eq] at c0
    obtain ⟨c1, cz⟩ := He.ba c0
    obtain ⟨c2, c3⟩ := He.ba cz
    exact ⟨⟨eqV_ok c1, c2, c3⟩, He.cls_ok (x := c) b1⟩
  · have hc := List.all_eq_true.mp a8 c (by simpa using e)
    rw [fr_eq] at hc
    obtain ⟨c1, hc⟩ := He.ba hc
    obtain ⟨c2, hc⟩ := He.ba hc
    obtain ⟨c3, hc⟩ := He.ba hc
    obtain ⟨c4, c5⟩ := He.ba hc
    exact ⟨c1, eqV_ok c2, of_decide_eq_true c3, c4, He.glo_ok (x := c) KX G c5⟩
  · have c0 := allL_ok a9 e
    rw [fr_eq, fAt_eq] at c0
    obtain ⟨c1, hc⟩ := He.ba c0
    obtain ⟨c2, hc⟩ := He.ba hc
    obtain ⟨c3, hc⟩ := He.ba hc
    obtain ⟨c4, c5⟩ := He.ba hc
    exact ⟨⟨c1, eqV_ok c2, c3, c4⟩, He.glo_ok (x := c) KX G c5⟩
  · exact He.free_ok KX G (List.all_eq_true.mp a10 x hx)
end Ev
set_option Elab.async false
set_option linter.all false
set_option maxRecDepth 100000
set_option maxHeartbeats 4000000
/-! The hook. -/
namespace Ev
open PySem PySem.Spec PyProof.Rows L2

theorem forceK_eq {α : Type} {g : Addr → Option Obj} : ∀ {as : List Addr} {k : PySem.W.Frag → α}, forceK g as k = k (He.frG g as)
  | [], _ => rfl
  | a :: r, k => by
    unfold forceK He.frG
    rw [List.filterMap_cons]
    cases e : g a with
    | none =>
      show forceK g r k = _
      rw [forceK_eq]
      rfl
    | some o =>
      show HandSHeadRun.frNat a (fun a => forceK g r fun K => k ((a, o) :: K)) = _
      rw [HandSHeadRun.frNat_eq, forceK_eq]
      rfl
abbrev AlW : Type := Bool × List He.FnW × List (Option (List (Option (Str × Int))))
noncomputable def obW (ats : Ats) (gf : Gf) (K : PySem.W.Frag) : AlW := (@allB fS fK fZ fG fA fL fE K ats gf, @fnsK fS fK fZ fG fA fL fE K ats gf, tabK K gf.g)
noncomputable def vaW (ats : Ats) (gf : Gf) (w : World) : AlW := (true, @fnsV fS fK fZ fG fA fL fE ats gf, tabW w gf.g)
noncomputable def obG (ns : List Str) (ats : Ats) (gf : Gf) (g : Addr → Option Obj) : AlW := forceK g (colG ns g) fun K => obW ats gf K
noncomputable def hookW (ns : List Str) (ats : Ats) (gf : Gf) : PySem.W.Hook where
  α := AlW
  obs := fun s => obG ns ats gf s.heap.get?
  val := fun w => vaW ats gf w
  says := fun w h => ∃ K : PySem.W.Frag, K.In h ∧ obW ats gf K = vaW ats gf w
  of := fun _ _ e => ⟨_, He.frG_in, (forceK_eq (k := fun K => obW ats gf K)).symm.trans e⟩
  keeps := fun _ _ _ ⟨K, hK, c⟩ k => ⟨K, PySem.W.Frag.In.keeps hK k, c⟩
noncomputable def obT (ns : List Str) (ats : Ats) (gf : Gf) (s : PySem.W.SharedT) : AlW := obG ns ats gf (HandSHeadRun.getT s)
theorem obT_eq {ns : List Str} {ats : Ats} {gf : Gf} (s : PySem.W.SharedT) : obT ns ats gf s = (hookW ns ats gf).obs s.abs := by
  have e : HandSHeadRun.getT s = s.abs.heap.get? := funext (HandSHeadRun.getT_eq s)
  unfold obT
  rw [e]
  rfl
theorem allB_any {a a' : DecidableEq Str} {b b' : DecidableEq Key} {c c' : DecidableEq String} {g g' : (α : Type) → GetElem? (List α) Nat α fun l i => i < l.length} {h h' : (α : Type) → Append (List α)} {l l' : (i j : Int) → Decidable (i < j)} {e e' : (i j : Int) → Decidable (i ≤ j)}
    (hg : g = g') (hh : h = h') {K : PySem.W.Frag} {ats : Ats} {gf : Gf} : @allB a b c g h l e K ats gf = @allB a' b' c' g' h' l' e' K ats gf ∧ @fnsK a b c g h l e K ats gf = @fnsK a' b' c' g' h' l' e' K ats gf ∧ @fnsV a b c g h l e ats gf = @fnsV a' b' c' g' h' l' e' ats gf ∧ @fixB a b c g h l e ats gf = @fixB a' b' c' g' h' l' e' ats gf := by
  obtain rfl : a = a' := Subsingleton.elim _ _
  obtain rfl : b = b' := Subsingleton.elim _ _
  obtain rfl : c = c' := Subsingleton.elim _ _
  obtain rfl : l = l' := by funext i j; exact Subsingleton.elim _ _
  obtain rfl : e = e' := by funext i j; exact Subsingleton.elim _ _
  subst hg hh
  exact ⟨rfl, rfl, rfl, rfl⟩
/-- the world behind the top, from the hook -/
theorem world_hook {Pr : Program} {w : World} {K : PySem.W.Frag} {mg : Str → Option Value} {P : Px} {ats : Ats} {h : Heap} (KX : K.In h) (G : h.Ns mainGlobals mg) (hf : @fixB fS fK fZ fG fA fL fE ats P.gf = true) (c : obW ats P.gf K = vaW ats P.gf w) :
    World1 Pr w K mg P (fun k => He.fAd K (atK ats k)) ∧ ∀ a o, K.lookup a = some o → o.cls ≠ .type "list" := by
  obtain ⟨e1, e2, e3, e4⟩ := allB_any (a := fS) (b := fK) (c := fZ) (l := fL) (e := fE) (a' := fun _ _ => inferInstance) (b' := fun _ _ => inferInstance) (c' := fun _ _ => inferInstance) (l' := fun _ _ => inferInstance) (e' := fun _ _ => inferInstance) fG_eq fA_eq (K := K) (ats := ats) (gf := P.gf)
  have c1 : @allB fS fK fZ fG fA fL fE K ats P.gf = true := congrArg (fun z : AlW => z.1) c
  have c2 : @fnsK fS fK fZ fG fA fL fE K ats P.gf = @fnsV fS fK fZ fG fA fL fE ats P.gf := congrArg (fun z : AlW => z.2.1) c
  have c3 : tabK K P.gf.g = tabW w P.gf.g := congrArg (fun z : AlW => z.2.2) c
  have d1 := e1.symm.trans c1
  refine ⟨world_of KX G (e4.symm.trans hf) d1 c3 (e2.symm.trans (c2.trans e3)), noLs_ok ?_⟩
  obtain ⟨_, d⟩ := He.ba d1
  obtain ⟨_, d⟩ := He.ba d
  obtain ⟨_, d⟩ := He.ba d
  obtain ⟨_, d⟩ := He.ba d
  obtain ⟨_, d⟩ := He.ba d
  obtain ⟨_, d⟩ := He.ba d
  obtain ⟨_, d⟩ := He.ba d
  obtain ⟨_, d⟩ := He.ba d
  obtain ⟨_, d⟩ := He.ba d
  exact (He.ba d).2

/-! the looks, in parts -/
theorem forceM_eq {α : Type} {g : Addr → Option Obj} {as : List Addr} {k : Nat → PySem.W.Frag → α} : forceM g as k = k (maskL as) (He.frG g as) := by
  unfold forceM
  rw [fr_eq, forceK_eq]
theorem fastF {g : Addr → Option Obj} {as : List Addr} {ats : Ats} {gf : Gf} (h : @fnBg fS fK fZ fG fA fL fE g (maskL as) (He.frG g as) ats gf = true) : @fnB fS fK fZ fG fA fL fE (He.frG g as) ats gf = true ∧ @fnsK fS fK fZ fG fA fL fE (He.frG g as) ats gf = @fnsG fS fK fZ fG fA fL fE g (He.frG g as) ats gf := by
  refine ⟨List.all_eq_true.mpr fun p hp => ?_, List.map_congr_left fun p hp => ?_⟩
  · have := List.all_eq_true.mp h p hp
    obtain ⟨⟨k, i⟩, ⟨k', at_⟩⟩ := p
    dsimp only at this ⊢
    rw [fAt_eq] at this ⊢
    obtain ⟨h1, h2⟩ := He.ba this
    rw [(okG_ok h1).1, h2]
    rfl
  · have := List.all_eq_true.mp h p hp
    obtain ⟨⟨k, i⟩, ⟨k', at_⟩⟩ := p
    dsimp only at this ⊢
    rw [fAt_eq] at this
    obtain ⟨h1, h2⟩ := He.ba this
    rw [fAt_eq, fAt_eq]
    exact (okG_ok h1).2
theorem fastM {g : Addr → Option Obj} {as : List Addr} {ats : Ats} {gf : Gf} (h : @mtBg fS fK fZ fG fA fL fE g (maskL as) (He.frG g as) ats gf = true) : @mtB fS fK fZ fG fA fL fE (He.frG g as) ats gf = true := by
  refine List.all_eq_true.mpr fun p hp => ?_
  have := List.all_eq_true.mp h p hp
  obtain ⟨c, ms⟩ := p
  dsimp only at this ⊢
  rw [fr_eq] at this ⊢
  obtain ⟨h1, h2⟩ := He.ba this
  refine Bool.and_eq_true_iff.mpr ⟨h1, List.all_eq_true.mpr fun q hq => ?_⟩
  have h3 := List.all_eq_true.mp h2 q hq
  obtain ⟨m, k⟩ := q
  dsimp only at h3 ⊢
  rw [fAt_eq] at h3 ⊢
  obtain ⟨h4, h5⟩ := He.ba h3
  rw [h4, (isG_ok h5).1, (isG_ok h5).2]
  rfl
theorem obW_of {ats : Ats} {gf : Gf} {g : Addr → Option Obj} {as : List Addr} {w : World} (a : pA ats gf (He.frG g as) = true) (b : pB g (maskL as) ats gf (He.frG g as) = true) (d : pD g (maskL as) ats gf (He.frG g as) = vD ats gf w) : obW ats gf (He.frG g as) = vaW ats gf w := by
  obtain ⟨a1, a⟩ := He.ba a
  obtain ⟨a2, a⟩ := He.ba a
  obtain ⟨a3, a⟩ := He.ba a
  obtain ⟨a4, a5⟩ := He.ba a
  obtain ⟨b1, b⟩ := He.ba b
  obtain ⟨b2, b⟩ := He.ba b
  obtain ⟨b3, b⟩ := He.ba b
  obtain ⟨b4, b5⟩ := He.ba b
  have d0 : @fnBg fS fK fZ fG fA fL fE g (maskL as) (He.frG g as) ats gf = true := congrArg Prod.fst d
  have d1 : @fnsG fS fK fZ fG fA fL fE g (He.frG g as) ats gf = @fnsV fS fK fZ fG fA fL fE ats gf := congrArg (fun z => z.2.1) d
  have d2 : tabK (He.frG g as) gf.g = tabW w gf.g := congrArg (fun z => z.2.2) d
  obtain ⟨c1, c2⟩ := fastF d0
  have m1 := fastM b1
  unfold obW vaW allB
  rw [a1, a2, a3, a4, a5, m1, b2, b3, b4, b5, c1, c2, d1, d2]
  rfl
theorem run_of {r : PySem.W.OpenRow} {q : Program} {names ns : List Str} {ats : Ats} {gf : Gf} {M : Nat} {w : World}
    (h1 : ∀ os, (endS r M w os).map (fun s => HandSHeadRun.looksF r.prog (PySem.W.boot_heap w.params) s.abs) = some true)
    (h2 : ∀ os, (endS r M w os).map (fun s => HandSHeadRun.seenQ q names (PySem.importedModules r.prog.main.body) (fun s => PySem.W.xlAt q [] s && PySem.W.recOk r.toRowW.records s) s.abs) = some (PySem.W.openGood q names))
    (hA : ∀ os, (endS r M w os).map (fun s => forceK (HandSHeadRun.getT s) (colG ns (HandSHeadRun.getT s)) (pA ats gf)) = some true)
    (hB : ∀ os, (endS r M w os).map (fun s => forceM (HandSHeadRun.getT s) (colG ns (HandSHeadRun.getT s)) fun S K => pB (HandSHeadRun.getT s) S ats gf K) = some true)
    (hD : ∀ os, (endS r M w os).map (fun s => forceM (HandSHeadRun.getT s) (colG ns (HandSHeadRun.getT s)) fun S K => pD (HandSHeadRun.getT s) S ats gf K) = some (vD ats gf w)) :
    HandSHeadRun.RunEq r q (hookW ns ats gf) (obT ns ats gf) M names w := fun os => by
  obtain ⟨s, e, z1⟩ := Option.map_eq_some_iff.mp (h1 os)
  have z2 := h2 os
  have zA := hA os
  have zB := hB os
  have zD := hD os
  rw [e, Option.map_some] at z2 zA zB zD
  rw [forceK_eq] at zA
  rw [forceM_eq] at zB zD
  have zo : obT ns ats gf s = vaW ats gf w := by
    unfold obT obG
    rw [forceK_eq]
    exact obW_of (Option.some.inj zA) (Option.some.inj zB) (Option.some.inj zD)
  show (endS r M w os).map _ = _
  rw [e, Option.map_some, z1, Option.some.inj z2, zo]
  rfl
end Ev
set_option Elab.async false
set_option linter.all false
set_option maxRecDepth 1000000
namespace K80
open PySem Ev PyProof.Rows L2
def nOf (P : Px) (k : Str) : List Str := match P.gf.fns.lookup k with | some i => i.N | none => []
def fnext (y : Int) : Int := (y * 48271 + 10037) % 2147483587
def dRet (y m : Int) : ED := binD modD (binD fdivD (binD modD (binD mulD (dC (.int y)) (dC (.int y))) (dC (.int 2147483563))) (dC (.int 5))) (dC (.int m))
noncomputable abbrev rn (ov : Ov) (k : Nat) (key : Str) (ds : List D) (M : Store) : R D := @runO fS fK fZ fG fA fL fE px ov 1000 60 k key ds M
theorem rn_eq (ov : Ov) (k : Nat) (key : Str) (ds : List D) (M : Store) : rn ov k key ds M = runO px ov 1000 60 k key ds M := by
  exact runO_fast
theorem dg0 (y m : Int) : runO px [] 1000 60 4 "_law_digit" [.ref 0, .int m] [.lst [.int (.ofNat 0), .int y]] = endB (seqS (retS (dRet (fnext y) m)) skipS (startE (nOf px "_law_digit") [.ref 0, .int m]) [.lst [.int (.ofNat 0), .int (fnext y)]]) := by kernel_rfl
theorem dgN (n : Nat) (y m : Int) : runO px [] 1000 60 4 "_law_digit" [.ref 0, .int m] [.lst [.int (.negSucc n), .int y]] = endB (seqS (retS (dRet (fnext y) m)) skipS (startE (nOf px "_law_digit") [.ref 0, .int m]) [.lst [.int (.negSucc n), .int (fnext y)]]) := by kernel_rfl
theorem dg2 (n : Nat) (y : Int) : rn [] 4 "_law_digit" [.ref 0, .int 2] [.lst [.int (.ofNat (n + 1)), .int y]] = .ok (.int (.ofNat (n + 1) % 2)) [.lst [.int (.ofNat (n + 1) / 2), .int y]] := by kernel_rfl
theorem dg4 (n : Nat) (y : Int) : rn [] 4 "_law_digit" [.ref 0, .int 4] [.lst [.int (.ofNat (n + 1)), .int y]] = .ok (.int (.ofNat (n + 1) % 4)) [.lst [.int (.ofNat (n + 1) / 4), .int y]] := by kernel_rfl
theorem dg9 (n : Nat) (y : Int) : rn [] 4 "_law_digit" [.ref 0, .int 9] [.lst [.int (.ofNat (n + 1)), .int y]] = .ok (.int (.ofNat (n + 1) % 9)) [.lst [.int (.ofNat (n + 1) / 9), .int y]] := by kernel_rfl
theorem fnext_ge (y : Int) : 0 ≤ fnext y := _root_.Int.emod_nonneg _ (by decide)
theorem fnext_lt (y : Int) : fnext y < 2147483587 := _root_.Int.emod_lt_of_pos _ (by decide)
theorem dRet_run (y m : Int) (hm : 0 < m) (ρ : Env1) (M : Store) : endB (seqS (retS (dRet (fnext y) m)) skipS ρ M) = .ok (.int (fnext y * fnext y % 2147483563 / 5 % m)) M := by
  have h1 := fnext_ge y
  have h2 := fnext_lt y
  have h3 : -18446744073709551616 < fnext y ∧ fnext y < 18446744073709551616 := by omega
  simp [h3, dRet, seqS, retS, binD, dC, mulD, modD, fdivD, R.bind, R.toS, RS.andThen, endB, Ev.ret, hm]
theorem dig_run (m : Int) (hm : m = 2 ∨ m = 4 ∨ m = 9) (x y : Int) : runO px [] 1000 60 4 "_law_digit" [.ref 0, .int m] [.lst [.int x, .int y]] = .ok (.int (digN x y m).2.2) [.lst [.int (digN x y m).1, .int (digN x y m).2.1]] := by
  have hm0 : 0 < m := by omega
  cases x with
  | ofNat n =>
    cases n with
    | zero => rw [dg0, dRet_run _ _ hm0]; rfl
    | succ n =>
      have hp : (0 : Int) < Int.ofNat (n + 1) := Int.natCast_pos.mpr (Nat.succ_pos n)
      unfold digN
      rw [if_pos hp]
      rcases hm with rfl | rfl | rfl
      · exact (rn_eq ..).symm.trans (dg2 n y)
      · exact (rn_eq ..).symm.trans (dg4 n y)
      · exact (rn_eq ..).symm.trans (dg9 n y)
  | negSucc n =>
    have hp : ¬ (0 : Int) < Int.negSucc n := Int.not_lt.mpr (Int.le_of_lt (Int.negSucc_lt_zero n))
    rw [dgN, dRet_run _ _ hm0]
    unfold digN
    rw [if_neg hp]
    rfl
end K80
set_option Elab.async false
set_option linter.all false
set_option maxRecDepth 1000000
namespace K80
open PySem Ev PyProof.Rows L2
section
local instance iS : DecidableEq Str := fS
local instance iK : DecidableEq Key := fK
local instance iZ : DecidableEq String := fZ
noncomputable local instance iG (α : Type) : GetElem? (List α) Nat α fun l i => i < l.length := fG α
noncomputable local instance iA (α : Type) : Append (List α) := fA α
local instance iL (i j : Int) : Decidable (i < j) := fL i j
local instance iE (i j : Int) : Decidable (i ≤ j) := fE i j
def absI (c : Int) : Int := if c < 0 then -c else c
def potA (c : Int) : Int := if absI c - 1000000000000000000 > 0 then absI c - 1000000000000000000 else 0
def potB (c k : Int) : Int := absI c % 2147483477 + 101 * k + 3
noncomputable def potR (c k : Int) (xs : List D) : R D := endB (seqS (retS (dLst (dCons (dC (.int (potA c))) (dCons (binD addD (binD modD (binD powD (dC (.int (potB c k))) (dC (.int 2))) (dC (.int 2147483399))) (dC (.int 1))) dNil)))) skipS ((startE (nOf px "_law_pot") [.ref 0, .int k]).set 2 (some (.int c))) [.ro xs])
theorem pN : rn [] 4 "_law_pot" [.ref 0, .int 0] [.ro []] = potR 0 0 [] := by kernel_rfl
theorem p0 (x0 : Int) (r : List D) : rn [] 4 "_law_pot" [.ref 0, .int 0] [.ro (.int x0 :: r)] = potR x0 0 (.int x0 :: r) := by kernel_rfl
theorem p1 (x0 x1 : Int) (r : List D) : rn [] 4 "_law_pot" [.ref 0, .int 1] [.ro (.int x0 :: .int x1 :: r)] = potR x1 1 (.int x0 :: .int x1 :: r) := by kernel_rfl
theorem p2 (x0 x1 x2 : Int) (r : List D) : rn [] 4 "_law_pot" [.ref 0, .int 2] [.ro (.int x0 :: .int x1 :: .int x2 :: r)] = potR x2 2 (.int x0 :: .int x1 :: .int x2 :: r) := by kernel_rfl
theorem p3 (x0 x1 x2 x3 : Int) (r : List D) : rn [] 4 "_law_pot" [.ref 0, .int 3] [.ro (.int x0 :: .int x1 :: .int x2 :: .int x3 :: r)] = potR x3 3 (.int x0 :: .int x1 :: .int x2 :: .int x3 :: r) := by kernel_rfl
theorem p4 (x0 x1 x2 x3 x4 : Int) (r : List D) : rn [] 4 "_law_pot" [.ref 0, .int 4] [.ro (.int x0 :: .int x1 :: .int x2 :: .int x3 :: .int x4 :: r)] = potR x4 4 (.int x0 :: .int x1 :: .int x2 :: .int x3 :: .int x4 :: r) := by kernel_rfl
theorem p5 (x0 x1 x2 x3 x4 x5 : Int) (r : List D) : rn [] 4 "_law_pot" [.ref 0, .int 5] [.ro (.int x0 :: .int x1 :: .int x2 :: .int x3 :: .int x4 :: .int x5 :: r)] = potR x5 5 (.int x0 :: .int x1 :: .int x2 :: .int x3 :: .int x4 :: .int x5 :: r) := by kernel_rfl
end
theorem potR_ok (c k : Int) (hk : 0 ≤ k ∧ k < 8) (xs : List D) : ∃ A B, potR c k xs = .ok (.ref 1) [.ro xs, .lst [.int A, .int B]] := by
  have h0 : 0 ≤ absI c % 2147483477 ∧ absI c % 2147483477 < 2147483477 := ⟨_root_.Int.emod_nonneg _ (by decide), _root_.Int.emod_lt_of_pos _ (by decide)⟩
  have h1 : (potB c k).natAbs < 18446744073709551616 := by unfold potB; omega
  refine ⟨potA c, potB c k ^ 2 % 2147483399 + 1, ?_⟩
  have hA : ∀ l m : List MO, @HAppend.hAppend _ _ _ (@instHAppendOfAppend _ (fA MO)) l m = l ++ m := fun l m => appR_eq l m
  simp [h1, potR, seqS, retS, dLst, dCons, dNil, mkLst, sizeLine, binD, dC, mulD, powD, addD, modD, R.bind, R.toS, RS.andThen, endB, Ev.ret, hA]
end K80
set_option Elab.async false
set_option linter.all false
set_option maxRecDepth 1000000
namespace K80
open PySem Ev PyProof.Rows L2
def ms80 : List Int := [2, 4, 9]
noncomputable def ov1 : Ov := [("_law_digit", 4, digF ms80)]
def isT : R D → Bool | .ok (.bl true) (.pot _ :: _) => true | _ => false
theorem n00 : isT (rn ov1 40 "_law_named_right" [.ref 0] [.pot [(4, 0), (2, 0)]]) = true := by kernel_rfl
theorem n01 : isT (rn ov1 40 "_law_named_right" [.ref 0] [.pot [(4, 0), (2, 1)]]) = true := by kernel_rfl
theorem n10 : isT (rn ov1 40 "_law_named_right" [.ref 0] [.pot [(4, 1), (2, 0)]]) = true := by kernel_rfl
theorem n11 : isT (rn ov1 40 "_law_named_right" [.ref 0] [.pot [(4, 1), (2, 1)]]) = true := by kernel_rfl
theorem n20 : isT (rn ov1 40 "_law_named_right" [.ref 0] [.pot [(4, 2), (2, 0)]]) = true := by kernel_rfl
theorem n21 : isT (rn ov1 40 "_law_named_right" [.ref 0] [.pot [(4, 2), (2, 1)]]) = true := by kernel_rfl
theorem n30 : isT (rn ov1 40 "_law_named_right" [.ref 0] [.pot [(4, 3), (2, 0)]]) = true := by kernel_rfl
theorem n31 : isT (rn ov1 40 "_law_named_right" [.ref 0] [.pot [(4, 3), (2, 1)]]) = true := by kernel_rfl
end K80
set_option Elab.async false
set_option linter.all false
set_option maxRecDepth 1000000
namespace K80
open PySem Ev PyProof.Rows L2
theorem c0 (x : Nat) : isT (rn ov1 40 "_law_courses_right" [.ref 0] [.pot [(9, 0), (9, .ofNat x)]]) = true := by kernel_rfl
theorem c1 (x : Nat) : isT (rn ov1 40 "_law_courses_right" [.ref 0] [.pot [(9, 1), (9, .ofNat x)]]) = true := by kernel_rfl
theorem c2 (x : Nat) : isT (rn ov1 40 "_law_courses_right" [.ref 0] [.pot [(9, 2), (9, .ofNat x)]]) = true := by kernel_rfl
end K80
set_option Elab.async false
set_option linter.all false
set_option maxRecDepth 1000000
namespace K80
open PySem Ev PyProof.Rows L2
theorem c3 (x : Nat) : isT (rn ov1 40 "_law_courses_right" [.ref 0] [.pot [(9, 3), (9, .ofNat x)]]) = true := by kernel_rfl
theorem c4 (x : Nat) : isT (rn ov1 40 "_law_courses_right" [.ref 0] [.pot [(9, 4), (9, .ofNat x)]]) = true := by kernel_rfl
theorem c5 (x : Nat) : isT (rn ov1 40 "_law_courses_right" [.ref 0] [.pot [(9, 5), (9, .ofNat x)]]) = true := by kernel_rfl
end K80
set_option Elab.async false
set_option linter.all false
set_option maxRecDepth 1000000
namespace K80
open PySem Ev PyProof.Rows L2
theorem c6 (x : Nat) : isT (rn ov1 40 "_law_courses_right" [.ref 0] [.pot [(9, 6), (9, .ofNat x)]]) = true := by kernel_rfl
theorem c7 (x : Nat) : isT (rn ov1 40 "_law_courses_right" [.ref 0] [.pot [(9, 7), (9, .ofNat x)]]) = true := by kernel_rfl
theorem c8 (x : Nat) : isT (rn ov1 40 "_law_courses_right" [.ref 0] [.pot [(9, 8), (9, .ofNat x)]]) = true := by kernel_rfl
end K80
set_option Elab.async false
set_option linter.all false
set_option maxRecDepth 1000000
namespace K80
open PySem Ev PyProof.Rows L2
noncomputable def ov2 : Ov := [("_law_pot", 4, potF 6), ("_law_named_right", 40, askF), ("_law_courses_right", 40, askF)]
def isB : R D → Bool | .ok (.bl true) _ => true | _ => false
theorem l0  : isB (rn ov2 44 "law" [.ref 0] [.ro []]) = true := by kernel_rfl
theorem l1 (x0 : Int) : isB (rn ov2 44 "law" [.ref 0] [.ro [.int x0]]) = true := by kernel_rfl
theorem l2 (x0 x1 : Int) : isB (rn ov2 44 "law" [.ref 0] [.ro [.int x0, .int x1]]) = true := by kernel_rfl
theorem l3 (x0 x1 x2 : Int) : isB (rn ov2 44 "law" [.ref 0] [.ro [.int x0, .int x1, .int x2]]) = true := by kernel_rfl
theorem l4 (x0 x1 x2 x3 : Int) : isB (rn ov2 44 "law" [.ref 0] [.ro [.int x0, .int x1, .int x2, .int x3]]) = true := by kernel_rfl
theorem l5 (x0 x1 x2 x3 x4 : Int) : isB (rn ov2 44 "law" [.ref 0] [.ro [.int x0, .int x1, .int x2, .int x3, .int x4]]) = true := by kernel_rfl
theorem l6 (x0 x1 x2 x3 x4 x5 : Int) (r : List D) : isB (rn ov2 44 "law" [.ref 0] [.ro (.int x0 :: .int x1 :: .int x2 :: .int x3 :: .int x4 :: .int x5 :: r)]) = true := by kernel_rfl
theorem pot_all (j : Nat) (xs : List D) (h1 : Nat.blt j 6 = true) (h2 : Ev.potB j xs = true) : ∃ A B, runO px [] 1000 60 4 "_law_pot" [.ref 0, .int (.ofNat j)] [.ro xs] = .ok (.ref 1) [.ro xs, .lst [.int A, .int B]] := by
  have hj : j < 6 := Nat.le_of_ble_eq_true h1
  rcases potB_ex h2 with ⟨rfl, rfl⟩ | ⟨ns, r, rfl, hl⟩
  · obtain ⟨A, B, e⟩ := potR_ok 0 0 (by decide) []
    exact ⟨A, B, (rn_eq ..).symm.trans (pN.trans e)⟩
  · match j, hj, ns, hl with
    | 0, _, [x0], _ =>
      obtain ⟨A, B, e⟩ := potR_ok x0 0 (by decide) (.int x0 :: r)
      exact ⟨A, B, (rn_eq ..).symm.trans ((p0 x0 r).trans e)⟩
    | 1, _, [x0, x1], _ =>
      obtain ⟨A, B, e⟩ := potR_ok x1 1 (by decide) (.int x0 :: .int x1 :: r)
      exact ⟨A, B, (rn_eq ..).symm.trans ((p1 x0 x1 r).trans e)⟩
    | 2, _, [x0, x1, x2], _ =>
      obtain ⟨A, B, e⟩ := potR_ok x2 2 (by decide) (.int x0 :: .int x1 :: .int x2 :: r)
      exact ⟨A, B, (rn_eq ..).symm.trans ((p2 x0 x1 x2 r).trans e)⟩
    | 3, _, [x0, x1, x2, x3], _ =>
      obtain ⟨A, B, e⟩ := potR_ok x3 3 (by decide) (.int x0 :: .int x1 :: .int x2 :: .int x3 :: r)
      exact ⟨A, B, (rn_eq ..).symm.trans ((p3 x0 x1 x2 x3 r).trans e)⟩
    | 4, _, [x0, x1, x2, x3, x4], _ =>
      obtain ⟨A, B, e⟩ := potR_ok x4 4 (by decide) (.int x0 :: .int x1 :: .int x2 :: .int x3 :: .int x4 :: r)
      exact ⟨A, B, (rn_eq ..).symm.trans ((p4 x0 x1 x2 x3 x4 r).trans e)⟩
    | 5, _, [x0, x1, x2, x3, x4, x5], _ =>
      obtain ⟨A, B, e⟩ := potR_ok x5 5 (by decide) (.int x0 :: .int x1 :: .int x2 :: .int x3 :: .int x4 :: .int x5 :: r)
      exact ⟨A, B, (rn_eq ..).symm.trans ((p5 x0 x1 x2 x3 x4 x5 r).trans e)⟩
theorem isB_ok {r : R D} (h : isB r = true) : ∃ M, r = .ok (.bl true) M := by
  unfold isB at h
  split at h
  · exact ⟨_, rfl⟩
  · cases h
theorem law_all (ns : List Int) : ∃ M, runO px ov2 1000 60 44 "law" [.ref 0] [.ro (ns.map D.int)] = .ok (.bl true) M := by
  rw [← rn_eq]
  apply isB_ok
  match ns with
  | [] => exact l0
  | [x0] => exact l1 x0
  | [x0, x1] => exact l2 x0 x1
  | [x0, x1, x2] => exact l3 x0 x1 x2
  | [x0, x1, x2, x3] => exact l4 x0 x1 x2 x3
  | [x0, x1, x2, x3, x4] => exact l5 x0 x1 x2 x3 x4
  | x0 :: x1 :: x2 :: x3 :: x4 :: x5 :: r => exact l6 x0 x1 x2 x3 x4 x5 _
end K80
set_option Elab.async false
set_option linter.all false
set_option maxRecDepth 1000000
set_option maxHeartbeats 0
namespace K80
open PySem Ev PyProof.Rows L2
theorem isT_ok {r : R D} (h : isT r = true) : ∃ t M, r = .ok (.bl true) (.pot t :: M) := by
  unfold isT at h
  split at h
  · exact ⟨_, _, rfl⟩
  · cases h
theorem two_of {t : List (Int × Int)} {a b : Int} (h : t.map (·.1) = [a, b]) : ∃ i j, t = [(a, i), (b, j)] := by
  match t, h with
  | [(x, i), (y, j)], h =>
    simp at h
    obtain ⟨rfl, rfl⟩ := h
    exact ⟨i, j, rfl⟩
theorem named_run (t : List (Int × Int)) (h : t.map (·.1) = [4, 2]) (hb : ∀ q ∈ t, 0 ≤ q.2 ∧ q.2 < q.1) : ∃ t' M', runO px ov1 1000 60 40 "_law_named_right" [.ref 0] [.pot t] = .ok (.bl true) (.pot t' :: M') := by
  obtain ⟨i, j, rfl⟩ := two_of h
  have h1 := hb (4, i) (by simp)
  have h2 := hb (2, j) (by simp)
  have hi : i = 0 ∨ i = 1 ∨ i = 2 ∨ i = 3 := by omega
  have hj : j = 0 ∨ j = 1 := by omega
  rw [← rn_eq]
  apply isT_ok
  rcases hi with rfl | rfl | rfl | rfl <;> rcases hj with rfl | rfl
  · exact n00
  · exact n01
  · exact n10
  · exact n11
  · exact n20
  · exact n21
  · exact n30
  · exact n31
theorem courses_run (t : List (Int × Int)) (h : t.map (·.1) = [9, 9]) (hb : ∀ q ∈ t, 0 ≤ q.2 ∧ q.2 < q.1) : ∃ t' M', runO px ov1 1000 60 40 "_law_courses_right" [.ref 0] [.pot t] = .ok (.bl true) (.pot t' :: M') := by
  obtain ⟨i, j, rfl⟩ := two_of h
  have h1 := hb (9, i) (by simp)
  have h2 := hb (9, j) (by simp)
  have hi : i = 0 ∨ i = 1 ∨ i = 2 ∨ i = 3 ∨ i = 4 ∨ i = 5 ∨ i = 6 ∨ i = 7 ∨ i = 8 := by omega
  obtain ⟨x, rfl⟩ : ∃ x : Nat, j = .ofNat x := ⟨j.toNat, (Int.toNat_of_nonneg h2.1).symm⟩
  rw [← rn_eq]
  apply isT_ok
  rcases hi with rfl | rfl | rfl | rfl | rfl | rfl | rfl | rfl | rfl
  · exact c0 x
  · exact c1 x
  · exact c2 x
  · exact c3 x
  · exact c4 x
  · exact c5 x
  · exact c6 x
  · exact c7 x
  · exact c8 x
section
variable {Pr : Program} {w : World} {K : PySem.W.Frag} {mg : Str → Option Value} {base : Heap} {adr : Str → Addr}
theorem ov1_ok (F : World1 Pr w K mg px adr) : OvOk Pr w K mg base px adr ov1 :=
  ov_cons (dig_ok (n := 1000) (m := 60) F fun d hd x y => dig_run d (by simpa [ms80] using hd) x y) ovNil
theorem ov2_ok (F : World1 Pr w K mg px adr) : OvOk Pr w K mg base px adr ov2 :=
  ov_cons (pot_ok (n := 1000) (m := 60) F pot_all) (ov_cons (ask_ok (n := 1000) (m := 60) (ms := [4, 2]) F (ov1_ok F) (by decide) named_run) (ov_cons (ask_ok (n := 1000) (m := 60) (ms := [9, 9]) F (ov1_ok F) (by decide) courses_run) ovNil))
end
theorem fixed : @fixB fS fK fZ fG fA fL fE ats px.gf = true := by decide +kernel
theorem law_in : ∃ i, px.gf.fns.lookup ("law" : Str) = some i ∧ i.P = [("_law_script" : Str)] ∧ i.Q = [] ∧ i.dvs = [] ∧ i.kws = [] := by
  have h : (match px.gf.fns.lookup ("law" : Str) with
    | some i => decide (i.P = [("_law_script" : Str)]) && (i.Q.isEmpty && (i.dvs.isEmpty && i.kws.isEmpty))
    | none => false) = true := by decide +kernel
  cases e : px.gf.fns.lookup ("law" : Str) with
  | none => rw [e] at h; cases h
  | some i =>
    rw [e] at h
    obtain ⟨a, h⟩ := He.ba h
    obtain ⟨b, h⟩ := He.ba h
    obtain ⟨c, d⟩ := He.ba h
    exact ⟨i, rfl, of_decide_eq_true a, List.isEmpty_iff.mp b, List.isEmpty_iff.mp c, List.isEmpty_iff.mp d⟩
theorem law_at : atK ats ("law" : Str) = (("law" : Str), (none : Option Str)) := by kernel_rfl
theorem RepL.nilD {p : Pw} {ι : List Addr} {H : Hp} {vs : List V} (h : RepL p ι H vs []) : vs = [] := by cases h; rfl
theorem RepK.nilD {p : Pw} {ι : List Addr} {H : Hp} {vs : List (Str × V)} (h : RepK p ι H vs []) : vs = [] := by cases h; rfl
theorem walk {q : Program} {loose : List Str} {XP : (Str → Option Value) → Heap → Prop} {d : DefRec} (hd : d.name = ("law" : Str)) (hdf : d.params.defaults = []) :
    PySem.W.WalkO q loose XP (hookW nms ats px.gf).says R80.toRowW d [] (fun f vs => PySem.call f vs) := by
  refine walkG (l := PySem.Challenge.rw_wallseal_k80_tables_by_names) (k := 44) (x := "_law_script") rfl hdf ⟨rfl, by decide, by decide⟩ ?_
  intro w mg f h Y G hmg
  obtain ⟨K, KX, c⟩ := Y
  obtain ⟨F, nl⟩ := world_hook (Pr := PySem.Challenge.rw_wallseal_k80_tables_by_names.prog) KX G fixed c
  obtain ⟨i, hi, e1, e2, e3, e4⟩ := law_in
  obtain ⟨fd, dvs, kws, FD, r1, r2, hp, _⟩ := F.ff.fn _ i hi
  have f1 : dvs = [] := by have := r1 [] (fun _ => none); rw [e3] at this; exact RepL.nilD this
  have f2 : kws = [] := by have := r2 [] (fun _ => none); rw [e4] at this; exact RepK.nilD this
  have ht : i.top = true := by
    have h : (match px.gf.fns.lookup ("law" : Str) with
      | some i => i.top
      | none => false) = true := by decide +kernel
    rw [hi] at h
    exact h
  have hf : f = He.fAd K (atK ats ("law" : Str)) := by
    have := F.ff.top _ i hi ht
    rw [hd] at hmg
    rw [hmg] at this
    cases this
    rfl
  subst hf
  refine ⟨K, fd, KX, nl, law_binds (mg := mg) FD hp e1 e2 f1 f2, fun base _ _ => ?_⟩
  have := law_fng (n := 1000) (m := 60) (k := 44) (base := base) F (ov2_ok F) hi (by rw [e1, e2]; rfl) FD law_all
  rw [e1, e2] at this
  exact this
end K80
set_option Elab.async false
set_option linter.all false
set_option maxRecDepth 1000000
set_option maxHeartbeats 0
namespace K80
open PySem Ev PyProof.Rows L2
theorem run (w : World) : HandSHeadRun.RunEq R80 qv (hookW nms ats px.gf) (obT nms ats px.gf) 20000 names w :=
  PySem.W.byRow2 "special-get-raises" (fun w => run_of (hLf w) (hSf w) (hAf w) (hBf w) (hDf w)) (fun w => run_of (hLt w) (hSt w) (hAt w) (hBt w) (hDt w)) w
end K80
open PySem PySem.W PySem.Calls PyProof.Rows
theorem PySem.Challenge.cw_wallseal_k80_tables_by_names_holds : PySem.Challenge.rw_wallseal_k80_tables_by_names.Holds := by
  w_on; o_law
  refine HandSHeadRun.head_any (r := OpenLaw.row PySem.Challenge.rw_wallseal_k80_tables_by_names) (q := K80.qv) (H := Ev.hookW K80.nms K80.ats K80.px.gf) (ob := Ev.obT K80.nms K80.ats K80.px.gf) (M := 20000) (loose := K80.names)
    (d := HandSHeadRun.topDef (OpenLaw.row PySem.Challenge.rw_wallseal_k80_tables_by_names).prog 166) (kwd := []) Ev.obT_eq (by kernel_rfl) (fun s => by kernel_rfl) K80.run (by kernel_rfl) (by kernel_rfl) (by kernel_rfl) (by rfl)
    (by first | assumption | decide +kernel) (by decide +kernel) ⟨rfl, rfl, rfl, rfl, rfl, by decide +kernel⟩ ?hw ?hc
  case hw => w_witness2
  case hc => exact K80.walk (by kernel_rfl) (by kernel_rfl)
